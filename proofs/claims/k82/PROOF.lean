import PyProof.Rows.All
import Wide.All
import OpenK.AllK
import Wide.FinOn
import HandS.Conv
import HandS.Deep
import HandS.Dict
import HandS.EndBits
import HandS.Evl
import HandS.Flow
import HandS.ForMost
import HandS.Gcd
import HandS.IsInst
import HandS.Sort
import HandS.SortKw
import HandS.Strs
import HandS.Style
import HandS.Text
import HandS.TupAny
import HandS.TupLen
import HandS.Walk
import HandS.Wide
import HandS.Zip
import KE.DataMinMax
import KE.GoesEnumKw
import KE.SortData
import PySem.Challenge.RW_inkwright_k82_whole_ends_of_texts
set_option Elab.async false
set_option linter.all false
set_option maxRecDepth 100000
set_option maxHeartbeats 4000000
/-! The data layer, 1: values that stand for data over a part of the heap that no longer changes. -/
namespace DL
open PySem L2
abbrev D := PyData
def keyD : Key → D
  | .inl i => .int i
  | .inr s => .str s
/-- the written part, and which of its tuples may stand for data -/
structure Kx where
  K : PySem.W.Frag
  C : Addr → Prop
def TupAt (κ : Kx) (F : Hp) (a : Addr) (vs : List V) : Prop :=
  F a = some (.tup vs) ∨ (κ.C a ∧ SqT κ.K (fun _ => none) a vs)
mutual
inductive Rep (κ : Kx) (F : Hp) : V → D → Prop
  | non : Rep κ F .non .none
  | bl (b : Bool) : Rep κ F (.bl b) (.bool b)
  | int (i : Int) : Rep κ F (.int i) (.int i)
  | str (s : Str) : Rep κ F (.str s) (.str s)
  | tup {a : Addr} {vs : List V} {xs : List D} : TupAt κ F a vs → Reps κ F vs xs → Rep κ F (.ref a) (.tuple xs)
  | lst {a : Addr} {vs : List V} {xs : List D} : Rd F a (.lst vs) → Reps κ F vs xs → Rep κ F (.ref a) (.list xs)
  | dK {a : Addr} {ps : List (Key × V)} {kvs : List (D × D)} : (∃ od, F a = some (.frz od (.dK ps))) → RepKs κ F ps kvs → Rep κ F (.ref a) (.dict kvs)
  | dT {a : Addr} {ps : List (List Key × V)} {kvs : List (D × D)} : (∃ od, F a = some (.frz od (.dT ps))) → RepTs κ F ps kvs → Rep κ F (.ref a) (.dict kvs)
  /-- the script: a list that is only read; a key None, which no dict has, marks it -/
  | scr {a : Addr} {vs : List V} {xs : List D} : SqL κ.K F a vs → Reps κ F vs xs → Rep κ F (.ref a) (.dict [(.none, .list xs)])
inductive Reps (κ : Kx) (F : Hp) : List V → List D → Prop
  | nil : Reps κ F [] []
  | cons {v : V} {d : D} {vs : List V} {ds : List D} : Rep κ F v d → Reps κ F vs ds → Reps κ F (v :: vs) (d :: ds)
inductive RepKs (κ : Kx) (F : Hp) : List (Key × V) → List (D × D) → Prop
  | nil : RepKs κ F [] []
  | cons {k : Key} {v : V} {d : D} {vs : List (Key × V)} {ds : List (D × D)} : Rep κ F v d → RepKs κ F vs ds → RepKs κ F ((k, v) :: vs) ((keyD k, d) :: ds)
inductive RepTs (κ : Kx) (F : Hp) : List (List Key × V) → List (D × D) → Prop
  /-- never empty: an empty dict is one of ints and texts -/
  | one {k : List Key} {v : V} {d : D} : Rep κ F v d → RepTs κ F [(k, v)] [(.tuple (k.map keyD), d)]
  | cons {k : List Key} {v : V} {d : D} {vs : List (List Key × V)} {ds : List (D × D)} : Rep κ F v d → RepTs κ F vs ds → RepTs κ F ((k, v) :: vs) ((.tuple (k.map keyD), d) :: ds)
end
/-- F lies within H; what may change may be locked there -/
def Sub (F H : Hp) : Prop := ∀ a u, F a = some u → H a = some u ∨ (Mut (some u) ∧ ∃ od, H a = some (.frz od u))
theorem Sub.refl (F : Hp) : Sub F F := fun _ _ h => .inl h
theorem Sub.rd {F H : Hp} (h : Sub F H) {a : Addr} {u : HO} (r : Rd F a u) : Rd H a u := by
  rcases r with r | ⟨o, r⟩
  · rcases h a u r with q | ⟨_, od, q⟩
    · exact .inl q
    · exact .inr ⟨od, q⟩
  · rcases h a _ r with q | ⟨m, od, q⟩
    · exact .inr ⟨o, q⟩
    · exact False.elim m
theorem Sub.tup {F H : Hp} (h : Sub F H) {a : Addr} {vs : List V} (r : F a = some (.tup vs)) : H a = some (.tup vs) := by
  rcases h a _ r with q | ⟨m, od, q⟩
  · exact q
  · exact False.elim m
theorem Sub.frz {F H : Hp} (h : Sub F H) {a : Addr} {o : Obj} {u : HO} (r : F a = some (.frz o u)) : H a = some (.frz o u) := by
  rcases h a _ r with q | ⟨m, od, q⟩
  · exact q
  · exact False.elim m
theorem Sub.tupAt {κ : Kx} {F H : Hp} (h : Sub F H) {a : Addr} {vs : List V} (r : TupAt κ F a vs) : TupAt κ H a vs := by
  rcases r with r | r
  · exact .inl (h.tup r)
  · exact .inr r
theorem Sub.sqL {K : PySem.W.Frag} {F H : Hp} (h : Sub F H) {a : Addr} {vs : List V} (r : SqL K F a vs) : SqL K H a vs := by
  rcases r with r | r
  · exact .inl (h.rd r)
  · exact .inr r
theorem Sub.of_eq {F H : Hp} (h : ∀ a u, F a = some u → H a = some u) : Sub F H := fun a u e => .inl (h a u e)
theorem Sub.ne_none {F H : Hp} (h : Sub F H) {a : Addr} (r : F a ≠ none) : H a ≠ none := by
  cases e : F a with
  | none => exact absurd e r
  | some u =>
    rcases h a u e with q | ⟨_, od, q⟩ <;> rw [q] <;> simp
theorem Sub.left {F F' H : Hp} (h : Sub F' H) (e : ∀ a u, F a = some u → F' a = some u) : Sub F H := fun a u q => h a u (e a u q)
theorem TupAt.sqT {κ : Kx} {F : Hp} {a : Addr} {vs : List V} (h : TupAt κ F a vs) : SqT κ.K F a vs := by
  rcases h with h | ⟨_, h⟩
  · exact .inl (.inl h)
  · rcases h with h | h
    · rcases h with h | ⟨o, h⟩ <;> cases h
    · exact .inr h
/-- a dict that is data is locked for good -/
theorem Sub.lk {F H : Hp} (h : Sub F H) {a : Addr} {u : HO} (r : ∃ od, F a = some (.frz od u)) : ∃ od, H a = some (.frz od u) := by
  obtain ⟨od, e⟩ := r
  rcases h a _ e with h | ⟨h, _⟩
  · exact ⟨od, h⟩
  · exact False.elim h
mutual
theorem Rep.mono {κ : Kx} {F H : Hp} (h : Sub F H) : ∀ {v : V} {d : D}, Rep κ F v d → Rep κ H v d
  | _, _, .non => .non
  | _, _, .bl b => .bl b
  | _, _, .int i => .int i
  | _, _, .str s => .str s
  | _, _, .tup r q => .tup (h.tupAt r) (Reps.mono h q)
  | _, _, .lst r q => .lst (h.rd r) (Reps.mono h q)
  | _, _, .dK r q => .dK (h.lk r) (RepKs.mono h q)
  | _, _, .dT r q => .dT (h.lk r) (RepTs.mono h q)
  | _, _, .scr r q => .scr (h.sqL r) (Reps.mono h q)
theorem Reps.mono {κ : Kx} {F H : Hp} (h : Sub F H) : ∀ {vs : List V} {ds : List D}, Reps κ F vs ds → Reps κ H vs ds
  | _, _, .nil => .nil
  | _, _, .cons r q => .cons (Rep.mono h r) (Reps.mono h q)
theorem RepKs.mono {κ : Kx} {F H : Hp} (h : Sub F H) : ∀ {vs : List (Key × V)} {ds : List (D × D)}, RepKs κ F vs ds → RepKs κ H vs ds
  | _, _, .nil => .nil
  | _, _, .cons r q => .cons (Rep.mono h r) (RepKs.mono h q)
theorem RepTs.mono {κ : Kx} {F H : Hp} (h : Sub F H) : ∀ {vs : List (List Key × V)} {ds : List (D × D)}, RepTs κ F vs ds → RepTs κ H vs ds
  | _, _, .one r => .one (Rep.mono h r)
  | _, _, .cons r q => .cons (Rep.mono h r) (RepTs.mono h q)
end
/-! ### lists of representations -/
section
variable {κ : Kx} {F : Hp}
theorem Reps.length : ∀ {vs : List V} {ds : List D}, Reps κ F vs ds → vs.length = ds.length
  | _, _, .nil => rfl
  | _, _, .cons _ q => by rw [List.length_cons, List.length_cons, q.length]
theorem Reps.get : ∀ {vs : List V} {ds : List D} {i : Nat} {d : D}, Reps κ F vs ds → ds[i]? = some d → ∃ v, vs[i]? = some v ∧ Rep κ F v d
  | _, _, _, _, .nil, e => by simp at e
  | _, _, 0, _, .cons r _, e => by simp at e; subst e; exact ⟨_, rfl, r⟩
  | _, _, i + 1, d, .cons _ q, e => by
    obtain ⟨v, h1, h2⟩ := Reps.get (i := i) (d := d) q (by simpa using e)
    exact ⟨v, by simpa using h1, h2⟩
theorem Reps.getV : ∀ {vs : List V} {ds : List D} {i : Nat} {v : V}, Reps κ F vs ds → vs[i]? = some v → ∃ d, ds[i]? = some d ∧ Rep κ F v d
  | _, _, _, _, .nil, e => by simp at e
  | _, _, 0, _, .cons r _, e => by simp at e; subst e; exact ⟨_, rfl, r⟩
  | _, _, i + 1, v, .cons _ q, e => by
    obtain ⟨d, h1, h2⟩ := Reps.getV (i := i) (v := v) q (by simpa using e)
    exact ⟨d, by simpa using h1, h2⟩
theorem Reps.append : ∀ {vs ws : List V} {ds es : List D}, Reps κ F vs ds → Reps κ F ws es → Reps κ F (vs ++ ws) (ds ++ es)
  | _, _, _, _, .nil, q => q
  | _, _, _, _, .cons r p, q => .cons r (p.append q)
theorem Reps.take : ∀ {vs : List V} {ds : List D} (n : Nat), Reps κ F vs ds → Reps κ F (vs.take n) (ds.take n)
  | _, _, 0, _ => .nil
  | _, _, _ + 1, .nil => .nil
  | _, _, n + 1, .cons r q => .cons r (q.take n)
theorem Reps.drop : ∀ {vs : List V} {ds : List D} (n : Nat), Reps κ F vs ds → Reps κ F (vs.drop n) (ds.drop n)
  | _, _, 0, q => q
  | _, _, _ + 1, .nil => .nil
  | _, _, n + 1, .cons _ q => q.drop n
theorem Reps.reverse {vs : List V} {ds : List D} (q : Reps κ F vs ds) : Reps κ F vs.reverse ds.reverse := by
  induction vs generalizing ds with
  | nil => cases q; exact .nil
  | cons v vs ih =>
    cases q with
    | cons r q => rw [List.reverse_cons, List.reverse_cons]; exact (ih q).append (.cons r .nil)
theorem Reps.set : ∀ {vs : List V} {ds : List D} {v : V} {d : D} (i : Nat), Reps κ F vs ds → Rep κ F v d → Reps κ F (vs.set i v) (ds.set i d)
  | _, _, _, _, _, .nil, _ => .nil
  | _, _, _, _, 0, .cons _ q, r => .cons r q
  | _, _, _, _, i + 1, .cons p q, r => .cons p (q.set i r)
theorem Reps.eraseIdx : ∀ {vs : List V} {ds : List D} (i : Nat), Reps κ F vs ds → Reps κ F (vs.eraseIdx i) (ds.eraseIdx i)
  | _, _, _, .nil => .nil
  | _, _, 0, .cons _ q => q
  | _, _, i + 1, .cons p q => .cons p (q.eraseIdx i)
theorem Reps.dropLast {vs : List V} {ds : List D} (q : Reps κ F vs ds) : Reps κ F vs.dropLast ds.dropLast := by
  rw [List.dropLast_eq_take, List.dropLast_eq_take, q.length]; exact q.take _
theorem Reps.insertIdx : ∀ {vs : List V} {ds : List D} {v : V} {d : D} (i : Nat), Reps κ F vs ds → Rep κ F v d → Reps κ F (vs.insertIdx i v) (ds.insertIdx i d)
  | _, _, _, _, 0, q, r => .cons r q
  | _, _, _, _, _ + 1, .nil, _ => .nil
  | _, _, _, _, i + 1, .cons p q, r => .cons p (q.insertIdx i r)
theorem Reps.nil_iff {vs : List V} {ds : List D} (q : Reps κ F vs ds) : vs = [] ↔ ds = [] := by cases q <;> simp
theorem Reps.isEmpty {vs : List V} {ds : List D} (q : Reps κ F vs ds) : vs.isEmpty = ds.isEmpty := by cases q <;> rfl
theorem Reps.of_get : ∀ {vs : List V} {ds : List D}, vs.length = ds.length → (∀ (i : Nat) (v : V) (d : D), vs[i]? = some v → ds[i]? = some d → Rep κ F v d) → Reps κ F vs ds
  | [], [], _, _ => .nil
  | [], _ :: _, h, _ => by cases h
  | _ :: _, [], h, _ => by cases h
  | v :: vs, d :: ds, h, g => .cons (g 0 v d rfl rfl) (Reps.of_get (by simpa using h) fun i v d e1 e2 => g (i + 1) v d (by simpa using e1) (by simpa using e2))
theorem Reps.one {v : V} {d : D} (r : Rep κ F v d) : Reps κ F [v] [d] := .cons r .nil
theorem Reps.two {v w : V} {d e : D} (r : Rep κ F v d) (q : Rep κ F w e) : Reps κ F [v, w] [d, e] := .cons r (.cons q .nil)
theorem Reps.flatten_rep {vs : List V} {ds : List D} (q : Reps κ F vs ds) : ∀ n : Nat, Reps κ F (List.replicate n vs).flatten (List.replicate n ds).flatten
  | 0 => .nil
  | n + 1 => by rw [List.replicate_succ, List.replicate_succ, List.flatten_cons, List.flatten_cons]; exact q.append (q.flatten_rep n)
theorem Rep.isInt {v : V} {i : Int} (r : Rep κ F v (.int i)) : v = .int i := by cases r; rfl
theorem Rep.isBool {v : V} {b : Bool} (r : Rep κ F v (.bool b)) : v = .bl b := by cases r; rfl
theorem Rep.isStr {v : V} {s : Str} (r : Rep κ F v (.str s)) : v = .str s := by cases r; rfl
theorem Rep.isNone {v : V} (r : Rep κ F v .none) : v = .non := by cases r; rfl
theorem Rep.isTup {v : V} {xs : List D} (r : Rep κ F v (.tuple xs)) : ∃ a vs, v = .ref a ∧ TupAt κ F a vs ∧ Reps κ F vs xs := by
  cases r with
  | tup h q => exact ⟨_, _, rfl, h, q⟩
theorem Rep.isLst {v : V} {xs : List D} (r : Rep κ F v (.list xs)) : ∃ a vs, v = .ref a ∧ Rd F a (.lst vs) ∧ Reps κ F vs xs := by
  cases r with
  | lst h q => exact ⟨_, _, rfl, h, q⟩
/-- what stands at a dict -/
def DicAt (κ : Kx) (F : Hp) (o : HO) (kvs : List (D × D)) : Prop := (∃ ps, o = .dK ps ∧ RepKs κ F ps kvs) ∨ ∃ ps, o = .dT ps ∧ RepTs κ F ps kvs
theorem DicAt.mono {H : Hp} {o : HO} {kvs : List (D × D)} (h : Sub F H) (d : DicAt κ F o kvs) : DicAt κ H o kvs := by
  rcases d with ⟨ps, e, q⟩ | ⟨ps, e, q⟩
  · exact .inl ⟨ps, e, q.mono h⟩
  · exact .inr ⟨ps, e, q.mono h⟩
theorem DicAt.mut {o : HO} {kvs : List (D × D)} (d : DicAt κ F o kvs) : Mut (some o) := by
  rcases d with ⟨ps, rfl, q⟩ | ⟨ps, rfl, q⟩ <;> trivial
/-- the script as data -/
def ScrAt (κ : Kx) (H F : Hp) (v : V) (kvs : List (D × D)) : Prop := ∃ a vs xs, v = .ref a ∧ kvs = [(.none, .list xs)] ∧ SqL κ.K H a vs ∧ Reps κ F vs xs
theorem Rep.isDic {v : V} {kvs : List (D × D)} (r : Rep κ F v (.dict kvs)) : (∃ a o, v = .ref a ∧ (∃ od, F a = some (.frz od o)) ∧ DicAt κ F o kvs) ∨ ScrAt κ F F v kvs := by
  cases r with
  | dK h q => exact .inl ⟨_, _, rfl, h, .inl ⟨_, rfl, q⟩⟩
  | dT h q => exact .inl ⟨_, _, rfl, h, .inr ⟨_, rfl, q⟩⟩
  | scr h q => exact .inr ⟨_, _, _, rfl, rfl, h, q⟩
theorem DicAt.noScr {o : HO} {x : D} (d : DicAt κ F o [(.none, x)]) : False := by
  rcases d with ⟨ps, _, q⟩ | ⟨ps, _, q⟩
  · have : ∃ k : Key, keyD k = PyData.none := by
      generalize hz : [(PyData.none, x)] = z at q
      cases q with
      | nil => cases hz
      | cons r q => exact ⟨_, (congrArg Prod.fst (List.cons.inj hz).1).symm⟩
    obtain ⟨k, hk⟩ := this
    cases k <;> cases hk
  · generalize hz : [(PyData.none, x)] = z at q
    cases q with
    | one r => have := congrArg Prod.fst (List.cons.inj hz).1; cases this
    | cons r q => have := congrArg Prod.fst (List.cons.inj hz).1; cases this
theorem Rep.ofDic {a : Addr} {o : HO} {kvs : List (D × D)} (h : ∃ od, F a = some (.frz od o)) (d : DicAt κ F o kvs) : Rep κ F (.ref a) (.dict kvs) := by
  rcases d with ⟨ps, rfl, q⟩ | ⟨ps, rfl, q⟩
  · exact .dK h q
  · exact .dT h q
end
/-! ### slots -/
inductive Kd where | ro | rw | own
  deriving DecidableEq
/-- what a slot holds: data; a list, a dict of its own (own), handed in (rw), handed in or locked to be read (ro) -/
inductive S where
  | d (x : D)
  | l (k : Kd) (xs : List D)
  | m (k : Kd) (kvs : List (D × D))
abbrev Env := List (Option S)
/-- is it an object of its own, of this kind -/
def S.is (k : Kd) : S → Prop
  | .d _ => False
  | .l k' _ => k' = k
  | .m k' _ => k' = k
def S.obj : S → Bool
  | .d _ => false
  | _ => true
def ObjAt (k : Kd) (H : Hp) (a : Addr) (o : HO) : Prop :=
  match k with
  | .ro => Rd H a o
  | _ => H a = some o
theorem ObjAt.rd {k : Kd} {H : Hp} {a : Addr} {o : HO} (h : ObjAt k H a o) : Rd H a o := by cases k <;> first | exact h | exact .inl h
def SlotAt (κ : Kx) (σ : St) (H F : Hp) (a : Addr) (i : Nat) : S → Prop
  | .d x => ∃ v, σ[i]? = some (some v) ∧ Rep κ F v x
  | .l k xs => σ[i]? = some (some (.ref a)) ∧ F a = none ∧ ∃ vs, ObjAt k H a (.lst vs) ∧ Reps κ F vs xs
  | .m k kvs => σ[i]? = some (some (.ref a)) ∧ F a = none ∧ ∃ o, ObjAt k H a o ∧ DicAt κ F o kvs
structure Sim (κ : Kx) (env : Env) (σ : St) (H F : Hp) (ad : Nat → Addr) : Prop where
  len : env.length = σ.length
  sub : Sub F H
  slot : ∀ i s, env[i]? = some (some s) → SlotAt κ σ H F (ad i) i s
  inj : ∀ i j s t, env[i]? = some (some s) → env[j]? = some (some t) → s.obj = true → t.obj = true → ad i = ad j → i = j
/-- a is the address of a slot's object of this kind -/
def At (k : Kd) (env : Env) (ad : Nat → Addr) (a : Addr) : Prop := ∃ i s, env[i]? = some (some s) ∧ s.is k ∧ ad i = a
/-- the shape: kind, list or dict -/
def S.shape : S → Option (Kd × Bool)
  | .d _ => none
  | .l k _ => some (k, true)
  | .m k _ => some (k, false)
structure Go (env : Env) (H F : Hp) (ad : Nat → Addr) (env' : Env) (H' F' : Hp) (ad' : Nat → Addr) : Prop where
  keep : ∀ a o, H a = some o → ¬ At .rw env ad a → ¬ At .own env ad a → H' a = some o
  pres : ∀ a, H a ≠ none → H' a ≠ none
  mono : ∀ a u, F a = some u → F' a = some u
  new : ∀ a, F' a ≠ none → F a ≠ none ∨ H a = none ∨ At .own env ad a ∨ ∃ vs, H a = some (.tup vs)
  tupb : ∀ a vs, H' a = some (.tup vs) → H a = some (.tup vs) ∨ H a = none
  own : ∀ a, At .own env' ad' a → At .own env ad a ∨ H a = none
  brw : ∀ i s, env'[i]? = some (some s) → s.is .rw ∨ s.is .ro → ∃ s0, env[i]? = some (some s0) ∧ s0.shape = s.shape ∧ ad' i = ad i ∧ (s.is .ro → s0 = s)
section
variable {env env1 env2 : Env} {H H1 H2 F F1 F2 : Hp} {ad ad1 ad2 : Nat → Addr}
theorem Go.refl : Go env H F ad env H F ad :=
  ⟨fun _ _ h _ _ => h, fun _ h => h, fun _ _ h => h, fun _ h => .inl h, fun _ _ h => .inl h, fun _ h => .inl h, fun i s h _ => ⟨s, h, rfl, rfl, fun _ => rfl⟩⟩
theorem S.shape_rw {s s0 : S} (h : s0.shape = s.shape) (k : Kd) : s0.is k ↔ s.is k := by
  cases s <;> cases s0 <;> simp_all [S.shape, S.is]
theorem Go.trans (g : Go env H F ad env1 H1 F1 ad1) (g' : Go env1 H1 F1 ad1 env2 H2 F2 ad2) : Go env H F ad env2 H2 F2 ad2 := by
  have rw' : ∀ a, At .rw env1 ad1 a → At .rw env ad a := fun a ⟨i, s, h1, h2, h3⟩ => by
    obtain ⟨s0, q1, q2, q3, _⟩ := g.brw i s h1 (.inl h2)
    exact ⟨i, s0, q1, (S.shape_rw q2 .rw).mpr h2, q3 ▸ h3⟩
  have back : ∀ a, H1 a = none → H a = none := fun a q => by
    cases e : H a with
    | none => rfl
    | some o => exact absurd q (g.pres a (by rw [e]; simp))
  refine ⟨fun a o h n1 n2 => ?_, fun a h => g'.pres a (g.pres a h), fun a u h => g'.mono a u (g.mono a u h), fun a h => ?_, fun a vs h => ?_, fun a h => ?_, fun i s h hk => ?_⟩
  · refine g'.keep a o (g.keep a o h n1 n2) (fun q => n1 (rw' a q)) fun q => ?_
    rcases g.own a q with q | q
    · exact n2 q
    · rw [h] at q; cases q
  · rcases g'.new a h with h | h | h | ⟨vs, h⟩
    · exact g.new a h
    · exact .inr (.inl (back a h))
    · rcases g.own a h with q | q
      · exact .inr (.inr (.inl q))
      · exact .inr (.inl q)
    · rcases g.tupb a vs h with h | h
      · exact .inr (.inr (.inr ⟨vs, h⟩))
      · exact .inr (.inl h)
  · rcases g'.tupb a vs h with h | h
    · exact g.tupb a vs h
    · exact .inr (back a h)
  · rcases g'.own a h with h | h
    · exact g.own a h
    · refine .inr ?_
      cases e : H a with
      | none => rfl
      | some o => exact absurd h (g.pres a (by rw [e]; simp))
  · obtain ⟨s1, q1, q2, q3, q4⟩ := g'.brw i s h hk
    obtain ⟨s0, p1, p2, p3, p4⟩ := g.brw i s1 q1 (hk.imp (S.shape_rw q2 _).mpr (S.shape_rw q2 _).mpr)
    refine ⟨s0, p1, p2.trans q2, q3.trans p3, fun r => ?_⟩
    have e1 := q4 r
    subst e1
    exact p4 r
end
end DL
/-! The data layer, 2: readings over data; expressions. -/
namespace DL
open PySem L2
/-! ### tops of objects, extensions -/
/-- v stands for d over H, what is within it over F -/
def RepP (κ : Kx) (H F : Hp) (v : V) : D → Prop
  | .list xs => ∃ a vs, v = .ref a ∧ Rd H a (.lst vs) ∧ Reps κ F vs xs
  | .tuple xs => ∃ a vs, v = .ref a ∧ TupAt κ H a vs ∧ Reps κ F vs xs
  | .dict kvs => (∃ a o, v = .ref a ∧ Rd H a o ∧ DicAt κ F o kvs) ∨ ScrAt κ H F v kvs
  | d => Rep κ F v d
theorem Rep.top {κ : Kx} {H F : Hp} {v : V} {d : D} (h : Sub F H) (r : Rep κ F v d) : RepP κ H F v d := by
  cases d with
  | list xs => obtain ⟨a, vs, e, h1, h2⟩ := r.isLst; exact ⟨a, vs, e, h.rd h1, h2⟩
  | tuple xs => obtain ⟨a, vs, e, h1, h2⟩ := r.isTup; exact ⟨a, vs, e, h.tupAt h1, h2⟩
  | dict kvs =>
    rcases r.isDic with ⟨a, o, e, h1, h2⟩ | ⟨a, vs, xs, e, e2, h1, h2⟩
    · exact .inl ⟨a, o, e, .inr (h.lk h1), h2⟩
    · exact .inr ⟨a, vs, xs, e, e2, h.sqL h1, h2⟩
  | _ => exact r
theorem RepP.rep {κ : Kx} {H F : Hp} {v : V} {d : D} (h : Sub F H) (r : RepP κ H F v d) (c : PyData.canLay0 d = true) : Rep κ H v d := by
  cases d with
  | list xs => obtain ⟨a, vs, rfl, h1, h2⟩ := r; exact .lst h1 (h2.mono h)
  | tuple xs => obtain ⟨a, vs, rfl, h1, h2⟩ := r; exact .tup h1 (h2.mono h)
  | dict kvs => simp only [PyData.canLay0] at c; cases c
  | none => exact Rep.mono h r
  | bool b => exact Rep.mono h r
  | int i => exact Rep.mono h r
  | str i => exact Rep.mono h r
/-- only new objects have come -/
structure Ext (H F H' F' : Hp) : Prop where
  keep : ∀ a o, H a = some o → H' a = some o
  mono : ∀ a u, F a = some u → F' a = some u
  new : ∀ a, F' a ≠ none → F a ≠ none ∨ H a = none ∨ ∃ vs, H a = some (.tup vs)
  tupb : ∀ a vs, H' a = some (.tup vs) → H a = some (.tup vs) ∨ H a = none
  sub : Sub F' H'
theorem Ext.refl {H F : Hp} (h : Sub F H) : Ext H F H F := ⟨fun _ _ h => h, fun _ _ h => h, fun _ h => .inl h, fun _ _ h => .inl h, h⟩
theorem Ext.trans {H F H1 F1 H2 F2 : Hp} (a : Ext H F H1 F1) (b : Ext H1 F1 H2 F2) : Ext H F H2 F2 := by
  have back : ∀ a, H1 a = none → H a = none := fun x q => by
    cases e : H x with
    | none => rfl
    | some o => rw [a.keep x o e] at q; cases q
  refine ⟨fun x o h => b.keep x o (a.keep x o h), fun x o h => b.mono x o (a.mono x o h), fun x h => ?_, fun x vs h => ?_, b.sub⟩
  · rcases b.new x h with h | h | ⟨vs, h⟩
    · exact a.new x h
    · exact .inr (.inl (back x h))
    · rcases a.tupb x vs h with h | h
      · exact .inr (.inr ⟨vs, h⟩)
      · exact .inr (.inl h)
  · rcases b.tupb x vs h with h | h
    · exact a.tupb x vs h
    · exact .inr (back x h)
theorem upd_eq {H : Hp} {a b : Addr} {o : HO} : upd H a o b = if b = a then some o else H b := rfl
/-- a new object, not data yet -/
theorem Ext.laid {H F : Hp} {p : Addr} {o : HO} (h : Sub F H) (hp : H p = none) : Ext H F (upd H p o) F ∧ F p = none := by
  have fp : F p = none := by
    cases e : F p with
    | none => rfl
    | some u => rcases h p u e with q | ⟨_, od, q⟩ <;> rw [hp] at q <;> cases q
  have ne : ∀ a o', H a = some o' → a ≠ p := fun a o' e z => by rw [z, hp] at e; cases e
  refine ⟨⟨fun a o' e => by rw [upd_ne (ne a o' e)]; exact e, fun _ _ e => e, fun _ e => .inl e, fun a vs e => ?_, fun a u e => ?_⟩, fp⟩
  · by_cases z : a = p
    · subst z; exact .inr hp
    · rw [upd_ne z] at e; exact .inl e
  · rcases h a u e with q | ⟨m, od, q⟩
    · exact .inl (by rw [upd_ne (ne a _ q)]; exact q)
    · exact .inr ⟨m, od, by rw [upd_ne (ne a _ q)]; exact q⟩
/-- a new object becomes data -/
theorem Ext.data {H F H' F' : Hp} {p : Addr} {o : HO} (x : Ext H F H' F') (hp : H p = none) (hf : F' p = none) (h' : H' p = some o) : Ext H F H' (upd F' p o) := by
  refine ⟨x.keep, fun a u e => ?_, fun a e => ?_, x.tupb, fun a u e => ?_⟩
  · have e' := x.mono a u e
    by_cases z : a = p
    · subst z; rw [hf] at e'; cases e'
    · rw [upd_ne z]; exact e'
  · by_cases z : a = p
    · subst z; exact .inr (.inl hp)
    · rw [upd_ne z] at e; exact x.new a e
  · by_cases z : a = p
    · subst z; rw [upd_same] at e; cases e; exact .inl h'
    · rw [upd_ne z] at e; exact x.sub a u e
theorem sub_upd {F : Hp} {p : Addr} {o : HO} (hf : F p = none) : Sub F (upd F p o) := .of_eq fun a u e => by
  by_cases z : a = p
  · subst z; rw [hf] at e; cases e
  · rw [upd_ne z]; exact e
section
variable {κ : Kx} {env : Env} {σ : St} {H F H' F' : Hp} {ad : Nat → Addr}
theorem ObjAt.ext {k : Kd} {a : Addr} {o : HO} (h : ObjAt k H a o) (keep : ∀ a o, H a = some o → H' a = some o) : ObjAt k H' a o := by
  cases k with
  | ro =>
    rcases h with h | ⟨od, h⟩
    · exact .inl (keep _ _ h)
    · exact .inr ⟨od, keep _ _ h⟩
  | rw => exact keep _ _ h
  | own => exact keep _ _ h
theorem S.obj_is {s : S} (h : s.obj = true) : ∃ k, s.is k := by
  cases s with
  | d x => cases h
  | l k xs => exact ⟨k, rfl⟩
  | m k xs => exact ⟨k, rfl⟩
/-- the object of a slot, in H, not in F -/
theorem Sim.objAt (I : Sim κ env σ H F ad) {i : Nat} {s : S} (h : env[i]? = some (some s)) (ho : s.obj = true) : F (ad i) = none ∧ ∃ o, Rd H (ad i) o ∧ ∀ vs, o ≠ .tup vs := by
  have q := I.slot i s h
  cases s with
  | d x => cases ho
  | l k xs =>
    obtain ⟨_, hf, vs, hv, _⟩ := q
    exact ⟨hf, _, hv.rd, fun _ e => by cases e⟩
  | m k xs =>
    obtain ⟨_, hf, o, hv, hd⟩ := q
    refine ⟨hf, _, hv.rd, fun vs e => ?_⟩
    rcases hd with ⟨ps, rfl, _⟩ | ⟨ps, rfl, _⟩ <;> cases e
theorem Sim.ext (I : Sim κ env σ H F ad) (x : Ext H F H' F') : Sim κ env σ H' F' ad := by
  refine ⟨I.len, x.sub, fun i s h => ?_, I.inj⟩
  have fr : s.obj = true → F' (ad i) = none := fun ho => by
    obtain ⟨hf, o, hr, ht⟩ := I.objAt h ho
    cases e : F' (ad i) with
    | none => rfl
    | some u =>
      rcases x.new (ad i) (by rw [e]; simp) with q | q | ⟨vs, q⟩
      · exact absurd hf q
      · rcases hr with r | ⟨od, r⟩ <;> rw [q] at r <;> cases r
      · rcases hr with r | ⟨od, r⟩ <;> rw [q] at r <;> cases r
        exact absurd rfl (ht vs)
  have q := I.slot i s h
  have sF : Sub F F' := .of_eq x.mono
  cases s with
  | d z =>
    obtain ⟨v, e, r⟩ := q
    exact ⟨v, e, r.mono sF⟩
  | l k xs =>
    obtain ⟨e, _, vs, hv, r⟩ := q
    exact ⟨e, fr rfl, vs, hv.ext x.keep, r.mono sF⟩
  | m k xs =>
    obtain ⟨e, _, o, hv, r⟩ := q
    exact ⟨e, fr rfl, o, hv.ext x.keep, r.mono sF⟩
theorem Go.ext (x : Ext H F H' F') : Go env H F ad env H' F' ad :=
  ⟨fun a o h _ _ => x.keep a o h, fun a h => by
    cases e : H a with
    | none => exact absurd e h
    | some o => rw [x.keep a o e]; simp, x.mono, fun a h => by
    rcases x.new a h with h | h | h
    · exact .inl h
    · exact .inr (.inl h)
    · exact .inr (.inr (.inr h)), x.tupb, fun _ h => .inl h, fun i s h _ => ⟨s, h, rfl, rfl, fun _ => rfl⟩⟩
end
/-! ### expressions -/
abbrev E := Env → Option (D × Env)
def tE (κ : Kx) (m : E) : TE := fun σ H Q => ∃ env F ad d env', Sim κ env σ H F ad ∧ m env = some (d, env') ∧
  ∀ v H' F' ad', Sim κ env' σ H' F' ad' → Go env H F ad env' H' F' ad' → Rep κ F' v d → Q v H'
def TopAt (κ : Kx) (H F : Hp) (a : Addr) : D → Prop
  | .list xs => ∃ vs, H a = some (.lst vs) ∧ Reps κ F vs xs
  | .dict kvs => ∃ o, H a = some o ∧ DicAt κ F o kvs
  | _ => False
/-- .. a new list, a new dict, held by nobody yet -/
def tO (κ : Kx) (m : E) : TE := fun σ H Q => ∃ env F ad d env', Sim κ env σ H F ad ∧ m env = some (d, env') ∧
  ∀ a H' F' ad', Sim κ env' σ H' F' ad' → Go env H F ad env' H' F' ad' → H a = none → F' a = none → (∀ k, ¬ At k env' ad' a) → TopAt κ H' F' a d → Q (.ref a) H'
theorem pe_of {X : Cx} {e : Expr} {t t' : TE} (h : PE X e t) (w : ∀ σ H Q, t' σ H Q → t σ H Q) : PE X e t' := ⟨fun pins s σ H Q I q => h.run pins s σ H Q I (w σ H Q q)⟩
theorem pt_of {X : Cx} {e : Expr} {t t' : TT} (h : PT X e t) (w : ∀ σ H Q, t' σ H Q → t σ H Q) : PT X e t' := ⟨fun pins s σ H Q I q => h.run pins s σ H Q I (w σ H Q q)⟩
theorem pw_of {X : Cx} {e : Expr} {t t' : TT} (h : PW X e t) (w : ∀ σ H Q, t' σ H Q → t σ H Q) : PW X e t' := ⟨fun wh pins s σ H Q I q => h.run wh pins s σ H Q I (w σ H Q q)⟩
theorem pa_of {X : Cx} {e : List Expr} {t t' : TA} (h : PA X e t) (w : ∀ σ H Q, t' σ H Q → t σ H Q) : PA X e t' := ⟨fun pos pins s σ H Q I q => h.run pos pins s σ H Q I (w σ H Q q)⟩
theorem ps_of {X : Cx} {e : Stmt} {t t' : TS} (h : PS X e t) (w : ∀ D σ H, t' D σ H → t D σ H) : PS X e t' := ⟨fun pins s σ H D I q => h.run pins s σ H D I (w D σ H q)⟩
theorem pss_of {X : Cx} {e : List Stmt} {t t' : TS} (h : PSs X e t) (w : ∀ D σ H, t' D σ H → t D σ H) : PSs X e t' := ⟨fun pins s σ H D I q => h.run pins s σ H D I (w D σ H q)⟩
variable {κ : Kx} {X : Cx} {e : Expr} {σ : St} {H : Hp} {Q : VK}
/-- a condition that holds at once, or when an object that may change has been locked for good -/
def LkQ (Q : VK) : VK := fun v H => Q v H ∨ ∃ a u, v = .ref a ∧ H a = some u ∧ Mut (some u) ∧ ∀ od, Q v (upd H a (.frz od u))
theorem pe_lock {t : TE} (h : PE X e t) : PE X e (fun σ H Q => t σ H (LkQ Q)) := by
  refine ⟨fun pins s σ H Q I q => ?_⟩
  refine thn (h.run pins s σ H _ I q) fun v s1 ⟨x, H1, I1, r1, q1⟩ => ?_
  rcases q1 with q1 | ⟨a, u, e1, e2, mu, k⟩
  · exact ⟨x, H1, I1, r1, q1⟩
  · obtain ⟨od, I2⟩ := I1.lock e2 mu
    exact ⟨x, _, I2, r1, k od⟩
theorem ObjAt.upd {k : Kd} {H : Hp} {a b : Addr} {o w : HO} (h : ObjAt k H b o) (n : b ≠ a) : ObjAt k (upd H a w) b o := by
  cases k with
  | ro =>
    rcases h with h | ⟨od, h⟩
    · exact .inl (by rw [upd_ne n]; exact h)
    · exact .inr ⟨od, by rw [upd_ne n]; exact h⟩
  | rw => show L2.upd H a w b = _; rw [upd_ne n]; exact h
  | own => show L2.upd H a w b = _; rw [upd_ne n]; exact h
/-- a new object that becomes data: as w, itself or locked -/
theorem becomes {env env' : Env} {F H' F' : Hp} {ad ad' : Nat → Addr} {a : Addr} (w : HO) (hw : ∀ vs, w ≠ .tup vs) (I' : Sim κ env' σ H' F' ad') (g : Go env H F ad env' H' F' ad') (ha : H a = none) (hf : F' a = none) (hn : ∀ k, ¬ At k env' ad' a) :
    Sim κ env' σ (upd H' a w) (upd F' a w) ad' ∧ Go env H F ad env' (upd H' a w) (upd F' a w) ad' := by
  refine ⟨⟨I'.len, fun b u e => ?_, fun i s h => ?_, I'.inj⟩, ⟨fun b o e n1 n2 => ?_, fun b h => ?_, fun b u e => ?_, fun b e => ?_, fun b vs e => ?_, g.own, g.brw⟩⟩
  · by_cases z : b = a
    · subst z; rw [upd_same] at e; cases e; exact .inl upd_same
    · rw [upd_ne z] at e; rw [upd_ne z]; exact I'.sub b u e
  · have q := I'.slot i s h
    have ne : s.obj = true → ad' i ≠ a := fun hs z => by
      obtain ⟨k, hk⟩ := S.obj_is hs
      exact hn k ⟨i, s, h, hk, z⟩
    cases s with
    | d z => obtain ⟨v, e, r⟩ := q; exact ⟨v, e, r.mono (sub_upd hf)⟩
    | l k xs => obtain ⟨e, hf', vs, hv, r⟩ := q; exact ⟨e, by rw [upd_ne (ne rfl)]; exact hf', vs, hv.upd (ne rfl), r.mono (sub_upd hf)⟩
    | m k xs => obtain ⟨e, hf', o, hv, r⟩ := q; exact ⟨e, by rw [upd_ne (ne rfl)]; exact hf', o, hv.upd (ne rfl), r.mono (sub_upd hf)⟩
  · have n : b ≠ a := fun z => by subst z; rw [ha] at e; cases e
    rw [upd_ne n]
    exact g.keep b o e n1 n2
  · by_cases z : b = a
    · subst z; rw [upd_same]; simp
    · rw [upd_ne z]; exact g.pres b h
  · have e' := g.mono b u e
    by_cases z : b = a
    · subst z; rw [hf] at e'; cases e'
    · rw [upd_ne z]; exact e'
  · by_cases z : b = a
    · subst z; exact .inr (.inl ha)
    · rw [upd_ne z] at e; exact g.new b e
  · by_cases z : b = a
    · subst z; rw [upd_same] at e; exact absurd (Option.some.inj e) (hw vs)
    · rw [upd_ne z] at e; exact g.tupb b vs e
theorem upd_id {H : Hp} {a : Addr} {o : HO} (h : H a = some o) : upd H a o = H := by
  funext b
  by_cases z : b = a
  · subst z; rw [upd_same, h]
  · rw [upd_ne z]
/-- a new list that becomes data -/
theorem tE_of_tOL {m : E} (hl : ∀ env d env', m env = some (d, env') → ∃ xs, d = .list xs) (h : tE κ m σ H Q) : tO κ m σ H Q := by
  obtain ⟨env, F, ad, d, env', I, hm, k⟩ := h
  refine ⟨env, F, ad, d, env', I, hm, fun a H' F' ad' I' g ha hf hn ht => ?_⟩
  obtain ⟨xs, rfl⟩ := hl _ _ _ hm
  obtain ⟨vs, h1, h2⟩ := ht
  obtain ⟨I2, g2⟩ := becomes (.lst vs) (fun _ e => by cases e) I' g ha hf hn
  rw [upd_id h1] at I2 g2
  exact k _ H' _ ad' I2 g2 (.lst (.of upd_same) (h2.mono (sub_upd hf)))
/-- a new object that becomes data -/
theorem tE_of_tO {m : E} (h : tE κ m σ H Q) : tO κ m σ H (LkQ Q) := by
  obtain ⟨env, F, ad, d, env', I, hm, k⟩ := h
  refine ⟨env, F, ad, d, env', I, hm, fun a H' F' ad' I' g ha hf hn ht => ?_⟩
  cases d with
  | list xs =>
    obtain ⟨vs, h1, h2⟩ := ht
    obtain ⟨I2, g2⟩ := becomes (.lst vs) (fun _ e => by cases e) I' g ha hf hn
    rw [upd_id h1] at I2 g2
    exact .inl (k _ H' _ ad' I2 g2 (.lst (.of upd_same) (h2.mono (sub_upd hf))))
  | dict kvs =>
    obtain ⟨o, h1, h2⟩ := ht
    refine .inr ⟨a, o, rfl, h1, h2.mut, fun od => ?_⟩
    obtain ⟨I2, g2⟩ := becomes (.frz od o) (fun _ e => by cases e) I' g ha hf hn
    exact k _ _ _ ad' I2 g2 (.ofDic ⟨od, upd_same⟩ (h2.mono (sub_upd hf)))
  | _ => exact False.elim ht
/-- constants -/
def eK (d : D) : E := fun env => some (d, env)
theorem ed_const {v : V} {d : D} (h : PE X e (tC v)) (r : ∀ F, Rep κ F v d) : PE X e (tE κ (eK d)) := by
  refine pe_of h fun σ H Q q => ?_
  obtain ⟨env, F, ad, d', env', I, hm, k⟩ := q
  cases hm
  exact k v H F ad I Go.refl (r F)
/-- what a slot stands for -/
def S.data : S → D
  | .d x => x
  | .l _ xs => .list xs
  | .m _ kvs => .dict kvs
def peek (env : Env) (i : Nat) : Option D := (env[i]?.bind id).map S.data
theorem peek_some {env : Env} {i : Nat} {d : D} (h : peek env i = some d) : ∃ s, env[i]? = some (some s) ∧ s.data = d := by
  unfold peek at h
  cases e : env[i]? with
  | none => rw [e] at h; cases h
  | some o =>
    cases o with
    | none => rw [e] at h; cases h
    | some s => rw [e] at h; exact ⟨s, rfl, Option.some.inj h⟩
theorem Sim.peek {env : Env} {F : Hp} {ad : Nat → Addr} (I : Sim κ env σ H F ad) {i : Nat} {d : D} (h : peek env i = some d) : ∃ v, σ[i]? = some (some v) ∧ RepP κ H F v d := by
  obtain ⟨s, e, rfl⟩ := peek_some h
  have q := I.slot i s e
  cases s with
  | d z => obtain ⟨v, e, r⟩ := q; exact ⟨v, e, r.top I.sub⟩
  | l k xs => obtain ⟨e, hf, vs, hv, r⟩ := q; exact ⟨_, e, _, vs, rfl, hv.rd, r⟩
  | m k xs => obtain ⟨e, hf, o, hv, r⟩ := q; exact ⟨_, e, .inl ⟨_, o, rfl, hv.rd, r⟩⟩
/-- a name read as data: its own object is own no more -/
def eV (i : Nat) : E := fun env => match env[i]? with
  | some (some (.d x)) => some (x, env)
  | some (some (.l .own xs)) => some (.list xs, env.set i (some (.d (.list xs))))
  | some (some (.m .own kvs)) => some (.dict kvs, env.set i (some (.d (.dict kvs))))
  | _ => none
theorem getElem?_set' {α : Type} (l : List α) (i j : Nat) (x : α) : (l.set i x)[j]? = if i = j then (if i < l.length then some x else none) else l[j]? := List.getElem?_set
/-- an own object becomes data: as w, itself or locked -/
theorem Sim.freezeW {env : Env} {F : Hp} {ad : Nat → Addr} (I : Sim κ env σ H F ad) {i : Nat} {s : S} (h : env[i]? = some (some s)) (ho : s.is .own) (w : HO) (hw : ∀ vs, w ≠ .tup vs) (hF : F (ad i) = none) (hσ : σ[i]? = some (some (.ref (ad i)))) (hr : ∀ F', F' (ad i) = some w → Sub F F' → Rep κ F' (.ref (ad i)) s.data) :
    ∃ F', Sim κ (env.set i (some (.d s.data))) σ (upd H (ad i) w) F' ad ∧ Go env H F ad (env.set i (some (.d s.data))) (upd H (ad i) w) F' ad ∧ σ[i]? = some (some (.ref (ad i))) ∧ Rep κ F' (.ref (ad i)) s.data := by
  have hob : s.obj = true := by cases s <;> first | rfl | exact False.elim ho
  have sF : Sub F (upd F (ad i) w) := sub_upd hF
  have rr := hr (upd F (ad i) w) upd_same sF
  refine ⟨upd F (ad i) w, ⟨by rw [List.length_set]; exact I.len, fun a u e => ?_, fun j t e => ?_, fun j k t t' e1 e2 o1 o2 q => ?_⟩, ⟨fun a u e n1 n2 => ?_, fun a e => ?_, fun a u e => ?_, fun a e => ?_, fun a vs e => ?_, fun a q => ?_, fun j t e hk => ?_⟩, hσ, rr⟩
  case refine_4 =>
    have n : a ≠ ad i := fun z => n2 ⟨i, s, h, ho, z.symm⟩
    rw [upd_ne n]; exact e
  case refine_5 =>
    by_cases z : a = ad i
    · subst z; rw [upd_same]; simp
    · rw [upd_ne z]; exact e
  case refine_8 =>
    by_cases z : a = ad i
    · subst z; rw [upd_same] at e; exact absurd (Option.some.inj e) (hw vs)
    · rw [upd_ne z] at e; exact .inl e
  all_goals
    skip
  · by_cases z : a = ad i
    · subst z; rw [upd_same] at e; cases e; exact .inl upd_same
    · rw [upd_ne z] at e; rw [upd_ne z]; exact I.sub a u e
  · rw [getElem?_set'] at e
    by_cases z : i = j
    · subst z
      rw [if_pos rfl] at e
      split at e <;> cases e
      exact ⟨_, hσ, rr⟩
    · rw [if_neg z] at e
      have q := I.slot j t e
      cases t with
      | d y => obtain ⟨v, e, r⟩ := q; exact ⟨v, e, r.mono sF⟩
      | l k xs =>
        obtain ⟨e', hf, vs, hv, r⟩ := q
        exact ⟨e', by rw [upd_ne fun q => z (I.inj j i _ _ e h rfl hob q).symm]; exact hf, vs, hv.upd (fun q => z (I.inj j i _ _ e h rfl hob q).symm), r.mono sF⟩
      | m k xs =>
        obtain ⟨e', hf, o', hv, r⟩ := q
        exact ⟨e', by rw [upd_ne fun q => z (I.inj j i _ _ e h rfl hob q).symm]; exact hf, o', hv.upd (fun q => z (I.inj j i _ _ e h rfl hob q).symm), r.mono sF⟩
  · rw [getElem?_set'] at e1 e2
    have n1 : i ≠ j := fun z => by
      subst z; rw [if_pos rfl] at e1
      split at e1 <;> cases e1
      cases o1
    have n2 : i ≠ k := fun z => by
      subst z; rw [if_pos rfl] at e2
      split at e2 <;> cases e2
      cases o2
    rw [if_neg n1] at e1
    rw [if_neg n2] at e2
    exact I.inj j k t t' e1 e2 o1 o2 q
  · by_cases z : a = ad i
    · subst z; rw [hF] at e; cases e
    · rw [upd_ne z]; exact e
  · by_cases z : a = ad i
    · subst z; exact .inr (.inr (.inl ⟨i, s, h, ho, rfl⟩))
    · rw [upd_ne z] at e; exact .inl e
  · obtain ⟨j, t, e, hk, ea⟩ := q
    rw [getElem?_set'] at e
    by_cases z : i = j
    · subst z; rw [if_pos rfl] at e
      split at e <;> cases e
      exact False.elim hk
    · rw [if_neg z] at e; exact .inl ⟨j, t, e, hk, ea⟩
  · rw [getElem?_set'] at e
    by_cases z : i = j
    · subst z; rw [if_pos rfl] at e
      split at e <;> cases e
      rcases hk with hk | hk <;> exact False.elim hk
    · rw [if_neg z] at e; exact ⟨t, e, rfl, rfl, fun _ => rfl⟩
/-- an own list becomes data -/
theorem Sim.freeze {env : Env} {F : Hp} {ad : Nat → Addr} (I : Sim κ env σ H F ad) {i : Nat} {xs : List D} (h : env[i]? = some (some (.l .own xs))) :
    ∃ F', Sim κ (env.set i (some (.d (.list xs)))) σ H F' ad ∧ Go env H F ad (env.set i (some (.d (.list xs)))) H F' ad ∧ σ[i]? = some (some (.ref (ad i))) ∧ Rep κ F' (.ref (ad i)) (.list xs) := by
  obtain ⟨e, hf, vs, hv, r⟩ := I.slot i _ h
  have hv : H (ad i) = some (.lst vs) := hv
  have := I.freezeW h rfl (.lst vs) (fun _ e => by cases e) hf e fun F' e' sF => .lst (.of e') (r.mono sF)
  rw [upd_id hv] at this
  exact this
/-- an own dict becomes data: locked -/
theorem Sim.freezeM {env : Env} {F : Hp} {ad : Nat → Addr} (I : Sim κ env σ H F ad) {i : Nat} {kvs : List (D × D)} (h : env[i]? = some (some (.m .own kvs))) :
    ∃ o, H (ad i) = some o ∧ Mut (some o) ∧ σ[i]? = some (some (.ref (ad i))) ∧ ∀ od, ∃ F', Sim κ (env.set i (some (.d (.dict kvs)))) σ (upd H (ad i) (.frz od o)) F' ad ∧ Go env H F ad (env.set i (some (.d (.dict kvs)))) (upd H (ad i) (.frz od o)) F' ad ∧ Rep κ F' (.ref (ad i)) (.dict kvs) := by
  obtain ⟨e, hf, o, hv, r⟩ := I.slot i _ h
  have hv : H (ad i) = some o := hv
  refine ⟨o, hv, r.mut, e, fun od => ?_⟩
  obtain ⟨F', q1, q2, _, q4⟩ := I.freezeW h rfl (.frz od o) (fun _ e => by cases e) hf e fun F' e' sF => .ofDic ⟨od, e'⟩ (r.mono sF)
  exact ⟨F', q1, q2, q4⟩
theorem ed_var {i : Nat} (h : PE X e (tVar i)) : PE X e (tE κ (eV i)) := by
  refine pe_of (pe_lock h) fun σ H Q q => ?_
  obtain ⟨env, F, ad, d, env', I, hm, k⟩ := q
  unfold eV at hm
  split at hm
  · rename_i x hx
    cases hm
    obtain ⟨v, e, r⟩ := I.slot i _ hx
    exact ⟨v, e, .inl (k v H F ad I Go.refl r)⟩
  · rename_i xs hx
    cases hm
    obtain ⟨F', I', g, e, r⟩ := I.freeze hx
    exact ⟨_, e, .inl (k _ H F' ad I' g r)⟩
  · rename_i xs hx
    cases hm
    obtain ⟨o, h1, h2, e, f⟩ := I.freezeM hx
    refine ⟨_, e, .inr ⟨_, o, rfl, h1, h2, fun od => ?_⟩⟩
    obtain ⟨F', I', g, r⟩ := f od
    exact k _ _ F' ad I' g r
  · cases hm
/-! ### operands -/
/-- an operand: an expression, or a name that is looked at alone -/
inductive Opd where
  | e (m : E)
  | p (i : Nat)
/-- what an operand came to -/
inductive Itm where
  | d (x : D)
  | i (i : Nat)
def runOpd : Opd → Env → Option (Itm × Env)
  | .e m, env => (m env).map fun r => (.d r.1, r.2)
  | .p i, env => (peek env i).map fun _ => (.i i, env)
def runOpds : List Opd → Env → Option (List Itm × Env)
  | [], env => some ([], env)
  | o :: r, env => (runOpd o env).bind fun a => (runOpds r a.2).map fun b => (a.1 :: b.1, b.2)
def Itm.get (env : Env) : Itm → Option D
  | .d x => some x
  | .i j => peek env j
def getAll (env : Env) : List Itm → Option (List D)
  | [] => some []
  | t :: r => (t.get env).bind fun d => (getAll env r).map fun ds => d :: ds
def ItmOk (κ : Kx) (σ : L2.St) (F : Hp) (v : V) : Itm → Prop
  | .d x => Rep κ F v x
  | .i j => σ[j]? = some (some v)
theorem ItmOk.mono {F F' : Hp} {v : V} {t : Itm} (h : Sub F F') (r : ItmOk κ σ F v t) : ItmOk κ σ F' v t := by
  cases t with
  | d x => exact Rep.mono h r
  | i j => exact r
theorem Go.sub {env env' : Env} {H H' F F' : Hp} {ad ad' : Nat → Addr} (g : Go env H F ad env' H' F' ad') : Sub F F' := .of_eq g.mono
theorem ItmOk.top {env : Env} {F : Hp} {ad : Nat → Addr} {v : V} {t : Itm} {x : D} (I : Sim κ env σ H F ad) (r : ItmOk κ σ F v t) (h : t.get env = some x) : RepP κ H F v x := by
  cases t with
  | d y =>
    obtain rfl : y = x := Option.some.inj h
    exact Rep.top I.sub r
  | i j =>
    obtain ⟨w, e, q⟩ := I.peek h
    have z : some (some v) = some (some w) := Eq.trans (Eq.symm r) e
    cases z
    exact q
def tOpd (κ : Kx) (o : Opd) : TE := fun σ H Q => ∃ env F ad t env', Sim κ env σ H F ad ∧ runOpd o env = some (t, env') ∧
  ∀ v H' F' ad', Sim κ env' σ H' F' ad' → Go env H F ad env' H' F' ad' → ItmOk κ σ F' v t → Q v H'
theorem od_e {m : E} (h : PE X e (tE κ m)) : PE X e (tOpd κ (.e m)) := by
  refine pe_of h fun σ H Q q => ?_
  obtain ⟨env, F, ad, t, env', I, hm, k⟩ := q
  cases e : m env with
  | none => simp only [runOpd, e] at hm; cases hm
  | some r =>
    simp only [runOpd, e] at hm
    cases hm
    exact ⟨env, F, ad, r.1, r.2, I, e, fun v H' F' ad' I' g r => k v H' F' ad' I' g r⟩
theorem od_p {i : Nat} (h : PE X e (tVar i)) : PE X e (tOpd κ (.p i)) := by
  refine pe_of h fun σ H Q q => ?_
  obtain ⟨env, F, ad, t, env', I, hm, k⟩ := q
  cases e : peek env i with
  | none => simp only [runOpd, e] at hm; cases hm
  | some d =>
    simp only [runOpd, e] at hm
    cases hm
    obtain ⟨v, hv, _⟩ := I.peek e
    exact ⟨v, hv, k v H F ad I Go.refl hv⟩
def tOs (κ : Kx) (os : List Opd) : TA := fun σ H Q => ∃ env F ad ts env', Sim κ env σ H F ad ∧ runOpds os env = some (ts, env') ∧
  ∀ vs H' F' ad', Sim κ env' σ H' F' ad' → Go env H F ad env' H' F' ad' → Paired (ItmOk κ σ F') vs ts → Q vs H'
theorem os_nil : PA X [] (tOs κ []) := pa_of pa_nil fun σ H Q q => by
  obtain ⟨env, F, ad, ts, env', I, hm, k⟩ := q
  cases hm
  exact k [] H F ad I Go.refl .nil
theorem Paired.itm {F F' : Hp} (h : Sub F F') : ∀ {vs : List V} {ts : List Itm}, Paired (ItmOk κ σ F) vs ts → Paired (ItmOk κ σ F') vs ts
  | _, _, .nil => .nil
  | _, _, .cons r q => .cons (r.mono h) (Paired.itm h q)
theorem os_cons {es : List Expr} {o : Opd} {os : List Opd} (h1 : PE X e (tOpd κ o)) (h2 : PA X es (tOs κ os)) (hs : starEach (e :: es) X.env = (false, eval e X.env) :: starEach es X.env := by rfl) : PA X (e :: es) (tOs κ (o :: os)) := by
  refine pa_of (pa_cons h1 h2 hs) fun σ H Q q => ?_
  obtain ⟨env, F, ad, ts, env', I, hm, k⟩ := q
  cases e1 : runOpd o env with
  | none => simp only [runOpds, e1] at hm; cases hm
  | some a =>
    cases e2 : runOpds os a.2 with
    | none => simp only [runOpds, e1, Option.bind_some, e2] at hm; cases hm
    | some b =>
      simp only [runOpds, e1, Option.bind_some, e2] at hm
      cases hm
      refine ⟨env, F, ad, a.1, a.2, I, e1, fun v H1 F1 ad1 I1 g1 r1 => ⟨a.2, F1, ad1, b.1, b.2, I1, e2, fun vs H2 F2 ad2 I2 g2 r2 => ?_⟩⟩
      exact k (v :: vs) H2 F2 ad2 I2 (g1.trans g2) (.cons (r1.mono g2.sub) r2)
theorem tops {env : Env} {F : Hp} {ad : Nat → Addr} (I : Sim κ env σ H F ad) : ∀ {vs : List V} {ts : List Itm} {ds : List D}, Paired (ItmOk κ σ F) vs ts → getAll env ts = some ds → Paired (RepP κ H F) vs ds
  | _, _, ds, .nil, h => by cases h; exact .nil
  | _, _, ds, .cons (b := t) (l₂ := ts) r q, h => by
    cases e1 : t.get env with
    | none => simp only [getAll, e1] at h; cases h
    | some x =>
      cases e2 : getAll env ts with
      | none => simp only [getAll, e1, Option.bind_some, e2] at h; cases h
      | some xs =>
        simp only [getAll, e1, Option.bind_some, e2] at h
        cases h
        exact .cons (r.top I e1) (tops I q e2)
/-! ### operations -/
/-- what a pure operation on data does, by values -/
def OpN (κ : Kx) (r : List V → Hp → VK → Prop) (f : List D → Option D) : Prop := ∀ (H F : Hp) (vs : List V) (ds : List D) (d : D) (Q : VK), Sub F H → Paired (RepP κ H F) vs ds → f ds = some d →
  (∀ w H' F', Ext H F H' F' → Rep κ F' w d → Q w H') → r vs H Q
/-- .. that makes a new list or dict -/
def OpNo (κ : Kx) (r : List V → Hp → VK → Prop) (f : List D → Option D) : Prop := ∀ (H F : Hp) (vs : List V) (ds : List D) (d : D) (Q : VK), Sub F H → Paired (RepP κ H F) vs ds → f ds = some d →
  (∀ a H' F', Ext H F H' F' → H a = none → F' a = none → TopAt κ H' F' a d → Q (.ref a) H') → r vs H Q
def eOp (f : List D → Option D) (os : List Opd) : E := fun env => (runOpds os env).bind fun a => (getAll a.2 a.1).bind fun ds => (f ds).map fun d => (d, a.2)
theorem eOp_some {f : List D → Option D} {os : List Opd} {env env' : Env} {d : D} (h : eOp f os env = some (d, env')) : ∃ ts ds, runOpds os env = some (ts, env') ∧ getAll env' ts = some ds ∧ f ds = some d := by
  unfold eOp at h
  cases e1 : runOpds os env with
  | none => rw [e1] at h; cases h
  | some a =>
    rw [e1, Option.bind_some] at h
    cases e2 : getAll a.2 a.1 with
    | none => rw [e2] at h; cases h
    | some ds =>
      rw [e2, Option.bind_some] at h
      cases e3 : f ds with
      | none => rw [e3] at h; cases h
      | some d' =>
        rw [e3] at h
        cases h
        exact ⟨a.1, ds, rfl, e2, e3⟩
/-- a fresh address is nobody's -/
theorem Sim.fresh {env : Env} {F : Hp} {ad : Nat → Addr} (I : Sim κ env σ H F ad) {a : Addr} (h : H a = none) (k : Kd) : ¬ At k env ad a := fun ⟨i, s, e, hk, ea⟩ => by
  have ho : s.obj = true := by cases s <;> first | rfl | exact False.elim hk
  obtain ⟨_, o, hr, _⟩ := I.objAt e ho
  rw [ea] at hr
  rcases hr with hr | ⟨od, hr⟩ <;> rw [h] at hr <;> cases hr
theorem opN_args {r : List V → Hp → VK → Prop} {f : List D → Option D} {os : List Opd} (hr : OpN κ r f) (q : tE κ (eOp f os) σ H Q) : tOs κ os σ H fun vs H' => r vs H' Q := by
  obtain ⟨env, F, ad, d, env', I, hm, k⟩ := q
  obtain ⟨ts, ds, h1, h2, h3⟩ := eOp_some hm
  refine ⟨env, F, ad, ts, env', I, h1, fun vs H1 F1 ad1 I1 g1 r1 => ?_⟩
  exact hr H1 F1 vs ds d Q I1.sub (tops I1 r1 h2) h3 fun w H2 F2 x hw => k w H2 F2 ad1 (I1.ext x) (g1.trans (Go.ext x)) hw
theorem opNo_args {r : List V → Hp → VK → Prop} {f : List D → Option D} {os : List Opd} (hr : OpNo κ r f) (q : tO κ (eOp f os) σ H Q) : tOs κ os σ H fun vs H' => r vs H' Q := by
  obtain ⟨env, F, ad, d, env', I, hm, k⟩ := q
  obtain ⟨ts, ds, h1, h2, h3⟩ := eOp_some hm
  refine ⟨env, F, ad, ts, env', I, h1, fun vs H1 F1 ad1 I1 g1 r1 => ?_⟩
  refine hr H1 F1 vs ds d Q I1.sub (tops I1 r1 h2) h3 fun a H2 F2 x ha hf ht => ?_
  have h0 : H a = none := by
    cases e : H a with
    | none => rfl
    | some o => exact absurd ha (g1.pres a (by rw [e]; simp))
  refine k a H2 F2 ad1 (I1.ext x) (g1.trans (Go.ext x)) h0 hf (fun kd q => I1.fresh ha kd ?_) ht
  exact q
/-- a call with arguments -/
theorem ed_callN {es : List Expr} {t : TE} {r : List V → Hp → VK → Prop} {f : List D → Option D} {os : List Opd} (hr : OpN κ r f) (h : PE X e (tCB r (tOs κ os))) : PE X e (tE κ (eOp f os)) :=
  pe_of h fun _ _ _ q => opN_args hr q
theorem eo_callN {es : List Expr} {t : TE} {r : List V → Hp → VK → Prop} {f : List D → Option D} {os : List Opd} (hr : OpNo κ r f) (h : PE X e (tCB r (tOs κ os))) : PE X e (tO κ (eOp f os)) :=
  pe_of h fun _ _ _ q => opNo_args hr q
/-- two operands, one -/
def onTwo (r : R2) : List V → Hp → VK → Prop := fun vs H Q => ∀ v u, vs = [v, u] → r v u H Q
def onOne (r : V → Hp → VK → Prop) : List V → Hp → VK → Prop := fun vs H Q => ∀ v, vs = [v] → r v H Q
theorem two_args {r : R2} {o1 o2 : Opd} (q : tOs κ [o1, o2] σ H fun vs H' => onTwo r vs H' Q) : tOp r (tOpd κ o1) (tOpd κ o2) σ H Q := by
  obtain ⟨env, F, ad, ts, env', I, hm, k⟩ := q
  cases e1 : runOpd o1 env with
  | none => simp only [runOpds, e1] at hm; cases hm
  | some a =>
    cases e2 : runOpd o2 a.2 with
    | none => simp only [runOpds, e1, Option.bind_some, e2] at hm; cases hm
    | some b =>
      simp only [runOpds, e1, Option.bind_some, e2] at hm
      cases hm
      refine ⟨env, F, ad, a.1, a.2, I, e1, fun v H1 F1 ad1 I1 g1 r1 => ⟨a.2, F1, ad1, b.1, b.2, I1, e2, fun u H2 F2 ad2 I2 g2 r2 => ?_⟩⟩
      exact k [v, u] H2 F2 ad2 I2 (g1.trans g2) (.cons (r1.mono g2.sub) (.cons r2 .nil)) v u rfl
theorem one_arg {r : V → Hp → VK → Prop} {o1 : Opd} (q : tOs κ [o1] σ H fun vs H' => onOne r vs H' Q) : tUn r (tOpd κ o1) σ H Q := by
  obtain ⟨env, F, ad, ts, env', I, hm, k⟩ := q
  cases e1 : runOpd o1 env with
  | none => simp only [runOpds, e1] at hm; cases hm
  | some a =>
    simp only [runOpds, e1, Option.bind_some] at hm
    cases hm
    exact ⟨env, F, ad, a.1, a.2, I, e1, fun v H1 F1 ad1 I1 g1 r1 => k [v] H1 F1 ad1 I1 g1 (.cons r1 .nil) v rfl⟩
def f2 (f : D → D → Option D) : List D → Option D
  | [x, y] => f x y
  | _ => none
def f1 (f : D → Option D) : List D → Option D
  | [x] => f x
  | _ => none
/-- an operation on two values -/
def Op2 (κ : Kx) (r : R2) (f : D → D → Option D) : Prop := ∀ (H F : Hp) (v u : V) (x y d : D) (Q : VK), Sub F H → RepP κ H F v x → RepP κ H F u y → f x y = some d →
  (∀ w H' F', Ext H F H' F' → Rep κ F' w d → Q w H') → r v u H Q
def Op2o (κ : Kx) (r : R2) (f : D → D → Option D) : Prop := ∀ (H F : Hp) (v u : V) (x y d : D) (Q : VK), Sub F H → RepP κ H F v x → RepP κ H F u y → f x y = some d →
  (∀ a H' F', Ext H F H' F' → H a = none → F' a = none → TopAt κ H' F' a d → Q (.ref a) H') → r v u H Q
def Op1 (κ : Kx) (r : V → Hp → VK → Prop) (f : D → Option D) : Prop := ∀ (H F : Hp) (v : V) (x d : D) (Q : VK), Sub F H → RepP κ H F v x → f x = some d →
  (∀ w H' F', Ext H F H' F' → Rep κ F' w d → Q w H') → r v H Q
theorem Op2.n {r : R2} {f : D → D → Option D} (h : Op2 κ r f) : OpN κ (onTwo r) (f2 f) := fun H F vs ds d Q hs hp hf k v u e => by
  subst e
  cases hp with
  | cons r1 q =>
    cases q with
    | cons r2 q => cases q; exact h H F v u _ _ d Q hs r1 r2 hf k
theorem Op2o.n {r : R2} {f : D → D → Option D} (h : Op2o κ r f) : OpNo κ (onTwo r) (f2 f) := fun H F vs ds d Q hs hp hf k v u e => by
  subst e
  cases hp with
  | cons r1 q =>
    cases q with
    | cons r2 q => cases q; exact h H F v u _ _ d Q hs r1 r2 hf k
theorem Op1.n {r : V → Hp → VK → Prop} {f : D → Option D} (h : Op1 κ r f) : OpN κ (onOne r) (f1 f) := fun H F vs ds d Q hs hp hf k v e => by
  subst e
  cases hp with
  | cons r1 q => cases q; exact h H F v _ d Q hs r1 hf k
def eOp2 (f : D → D → Option D) (o1 o2 : Opd) : E := eOp (f2 f) [o1, o2]
def eOp1 (f : D → Option D) (o : Opd) : E := eOp (f1 f) [o]
theorem op2_args {r : R2} {f : D → D → Option D} {o1 o2 : Opd} (hr : Op2 κ r f) (q : tE κ (eOp2 f o1 o2) σ H Q) : tOp r (tOpd κ o1) (tOpd κ o2) σ H Q := two_args (opN_args hr.n q)
theorem op2o_args {r : R2} {f : D → D → Option D} {o1 o2 : Opd} (hr : Op2o κ r f) (q : tO κ (eOp2 f o1 o2) σ H Q) : tOp r (tOpd κ o1) (tOpd κ o2) σ H Q := two_args (opNo_args hr.n q)
theorem op1_args {r : V → Hp → VK → Prop} {f : D → Option D} {o : Opd} (hr : Op1 κ r f) (q : tE κ (eOp1 f o) σ H Q) : tUn r (tOpd κ o) σ H Q := one_arg (opN_args hr.n q)
variable {a b : Expr} {o1 o2 : Opd} {pos : Pos} {f : D → D → Option D} {r : R2}
theorem ed_bin {op : Operator} (ho : OpR X (binaryOp op) r) (hr : Op2 κ r f) (ha : PE X a (tOpd κ o1)) (hb : PE X b (tOpd κ o2)) : PE X (.BinOp a op b pos) (tE κ (eOp2 f o1 o2)) := pe_of (pe_op ho ha hb) fun _ _ _ q => op2_args hr q
theorem eo_bin {op : Operator} (ho : OpR X (binaryOp op) r) (hr : Op2o κ r f) (ha : PE X a (tOpd κ o1)) (hb : PE X b (tOpd κ o2)) : PE X (.BinOp a op b pos) (tO κ (eOp2 f o1 o2)) := pe_of (pe_op ho ha hb) fun _ _ _ q => op2o_args hr q
theorem ed_un {op : UnaryOp} {g : D → Option D} {r : V → Hp → VK → Prop} (ho : UnR X (unaryOp op) r) (hr : Op1 κ r g) (ha : PE X a (tOpd κ o1)) : PE X (.UnaryOp op a pos) (tE κ (eOp1 g o1)) := pe_of (pe_un ho ha) fun _ _ _ q => op1_args hr q
theorem ed_cmp {op : CmpOp} (ho : OpR X (compareOp op) r) (hr : Op2 κ r f) (ha : PE X a (tOpd κ o1)) (hb : PE X b (tOpd κ o2)) (hm : behindInMarks op b = false) : PE X (.Compare a [op] [b] pos) (tE κ (eOp2 f o1 o2)) := pe_of (pe_cmpR ho ha hb hm) fun _ _ _ q => op2_args hr q
theorem ed_ix (ho : IxR X r) (hr : Op2 κ r f) (ha : PE X a (tOpd κ o1)) (hb : PE X b (tOpd κ o2)) (hs : PlainIx b) : PE X (.Subscript a b pos) (tE κ (eOp2 f o1 o2)) := pe_of (pe_ix ho ha hb hs) fun _ _ _ q => op2_args hr q
/-! ### tests -/
abbrev T := Env → Option (Bool × Env)
def tT (κ : Kx) (m : T) : TT := fun σ H Q => ∃ env F ad b env', Sim κ env σ H F ad ∧ m env = some (b, env') ∧ ∀ H' F' ad', Sim κ env' σ H' F' ad' → Go env H F ad env' H' F' ad' → Q b H'
def tB (m : E) : T := fun env => match m env with
  | some (.bool b, env') => some (b, env')
  | _ => none
theorem tT_tB {m : E} {Q : Bool → Hp → Prop} (q : tT κ (tB m) σ H Q) : tE κ m σ H fun x H' => ∃ k, x = .bl k ∧ Q k H' := by
  obtain ⟨env, F, ad, b, env', I, hm, k⟩ := q
  unfold tB at hm
  split at hm
  · rename_i b' env1 e
    cases hm
    exact ⟨env, F, ad, _, _, I, e, fun v H' F' ad' I' g r => ⟨_, r.isBool, k H' F' ad' I' g⟩⟩
  · cases hm
theorem td_cmp {op : CmpOp} (ho : OpR X (compareOp op) r) (hr : Op2 κ r f) (ha : PE X a (tOpd κ o1)) (hb : PE X b (tOpd κ o2)) (hm : behindInMarks op b = false) : PT X (.Compare a [op] [b] pos) (tT κ (tB (eOp2 f o1 o2))) :=
  pt_of (pt_cmpR ho ha hb hm) fun _ _ _ q => op2_args hr (tT_tB q)
def truD : D → Option Bool
  | .none => some false
  | .bool b => some b
  | .int i => some (i != 0)
  | .str s => if s.length ≤ sizeLine then some ((s.length : Int) != 0) else none
  | .list xs => some (!xs.isEmpty)
  | .tuple xs => some (!xs.isEmpty)
  | .dict _ => none
def tTru (o : Opd) : T := fun env => (runOpd o env).bind fun a => (a.1.get a.2).bind fun d => (truD d).map fun b => (b, a.2)
theorem tru_top {F : Hp} {v : V} {d : D} {b : Bool} (hκ : κ.K = X.K) (h : RepP κ H F v d) (e : truD d = some b) : TruV X.K v H b := by
  cases d with
  | none => obtain rfl := Rep.isNone h; cases e; rfl
  | bool c => obtain rfl := Rep.isBool h; cases e; rfl
  | int i => obtain rfl := Rep.isInt h; cases e; rfl
  | str s =>
    obtain rfl := Rep.isStr h
    simp only [truD] at e
    by_cases z : s.length ≤ sizeLine
    · rw [if_pos z] at e; cases e; exact ⟨z, rfl⟩
    · rw [if_neg z] at e; cases e
  | list xs =>
    obtain ⟨a, vs, rfl, h1, h2⟩ := h
    cases e
    exact .inl ⟨vs, .inl h1, by rw [h2.isEmpty]⟩
  | tuple xs =>
    obtain ⟨a, vs, rfl, h1, h2⟩ := h
    cases e
    exact .inr (.inl ⟨vs, hκ ▸ h1.sqT, by rw [h2.isEmpty]⟩)
  | dict kvs => cases e
theorem td_tru (hκ : κ.K = X.K) (ha : PE X a (tOpd κ o1)) (he : ∀ whole, isTrue a X.env whole = (do let v ← whole; standAt a.pos; holding [v] (truthy v)) := by intro _; rfl) : PT X a (tT κ (tTru o1)) :=
  pt_of (pt_truth ha he) fun σ H Q q => by
    obtain ⟨env, F, ad, b, env', I, hm, k⟩ := q
    unfold tTru at hm
    cases e1 : runOpd o1 env with
    | none => rw [e1] at hm; cases hm
    | some t =>
      rw [e1, Option.bind_some] at hm
      cases e2 : t.1.get t.2 with
      | none => rw [e2] at hm; cases hm
      | some d =>
        rw [e2, Option.bind_some] at hm
        cases e3 : truD d with
        | none => rw [e3] at hm; cases hm
        | some b' =>
          rw [e3] at hm
          cases hm
          exact ⟨env, F, ad, t.1, t.2, I, e1, fun v H' F' ad' I' g r => ⟨b, tru_top hκ (r.top I' e2) e3, k H' F' ad' I' g⟩⟩
def tAndD (t u : T) : T := fun env => (t env).bind fun a => if a.1 = true then u a.2 else some (false, a.2)
def tOrD (t u : T) : T := fun env => (t env).bind fun a => if a.1 = true then some (true, a.2) else u a.2
def tNotD (t : T) : T := fun env => (t env).map fun a => (!a.1, a.2)
variable {t u : T} {rest : List Expr}
theorem tw_and1 (ha : PT X a (tT κ t)) : PW X (.BoolOp .And [a] pos) (tT κ t) := pw_and1 ha
theorem tw_or1 (ha : PT X a (tT κ t)) : PW X (.BoolOp .Or [a] pos) (tT κ t) := pw_or1 ha
theorem tw_and (ha : PT X a (tT κ t)) (hb : PW X (.BoolOp .And (b :: rest) pos) (tT κ u)) : PW X (.BoolOp .And (a :: b :: rest) pos) (tT κ (tAndD t u)) :=
  pw_of (pw_and ha hb) fun σ H Q q => by
    obtain ⟨env, F, ad, c, env', I, hm, k⟩ := q
    unfold tAndD at hm
    cases e1 : t env with
    | none => rw [e1] at hm; cases hm
    | some x =>
      obtain ⟨x, env1⟩ := x
      rw [e1, Option.bind_some] at hm
      refine ⟨env, F, ad, x, env1, I, e1, fun H' F' ad' I' g => ?_⟩
      cases x with
      | true =>
        rw [if_pos rfl]
        rw [if_pos rfl] at hm
        exact ⟨env1, F', ad', c, env', I', hm, fun H2 F2 ad2 I2 g2 => k H2 F2 ad2 I2 (g.trans g2)⟩
      | false =>
        rw [if_neg Bool.false_ne_true]
        rw [if_neg Bool.false_ne_true] at hm
        cases hm
        exact k H' F' ad' I' g
theorem tw_or (ha : PT X a (tT κ t)) (hb : PW X (.BoolOp .Or (b :: rest) pos) (tT κ u)) : PW X (.BoolOp .Or (a :: b :: rest) pos) (tT κ (tOrD t u)) :=
  pw_of (pw_or ha hb) fun σ H Q q => by
    obtain ⟨env, F, ad, c, env', I, hm, k⟩ := q
    unfold tOrD at hm
    cases e1 : t env with
    | none => rw [e1] at hm; cases hm
    | some x =>
      obtain ⟨x, env1⟩ := x
      rw [e1, Option.bind_some] at hm
      refine ⟨env, F, ad, x, env1, I, e1, fun H' F' ad' I' g => ?_⟩
      cases x with
      | false =>
        rw [if_neg Bool.false_ne_true]
        rw [if_neg Bool.false_ne_true] at hm
        exact ⟨env1, F', ad', c, env', I', hm, fun H2 F2 ad2 I2 g2 => k H2 F2 ad2 I2 (g.trans g2)⟩
      | true =>
        rw [if_pos rfl]
        rw [if_pos rfl] at hm
        cases hm
        exact k H' F' ad' I' g
theorem td_not (ha : PT X a (tT κ t)) : PT X (.UnaryOp .Not a pos) (tT κ (tNotD t)) :=
  pt_of (pt_not ha) fun σ H Q q => by
    obtain ⟨env, F, ad, c, env', I, hm, k⟩ := q
    unfold tNotD at hm
    cases e1 : t env with
    | none => rw [e1] at hm; cases hm
    | some x =>
      rw [e1] at hm
      cases hm
      exact ⟨env, F, ad, x.1, x.2, I, e1, k⟩
/-- and, or, not of bools, as values -/
def eAnd (m n : E) : E := fun env => match m env with
  | some (.bool true, env1) => n env1
  | some (.bool false, env1) => some (.bool false, env1)
  | _ => none
def eOr (m n : E) : E := fun env => match m env with
  | some (.bool true, env1) => some (.bool true, env1)
  | some (.bool false, env1) => n env1
  | _ => none
def eNot (t : T) : E := fun env => (t env).map fun a => (.bool (!a.1), a.2)
def eIf (t : T) (m n : E) : E := fun env => (t env).bind fun a => if a.1 = true then m a.2 else n a.2
variable {m n : E}
theorem ed_one {op : BoolOp} (h : PE X a (tE κ m)) : PE X (.BoolOp op [a] pos) (tE κ m) := pe_one h
theorem ed_and (ha : PE X a (tE κ m)) (hb : PE X (.BoolOp .And (b :: rest) pos) (tE κ n)) : PE X (.BoolOp .And (a :: b :: rest) pos) (tE κ (eAnd m n)) :=
  pe_of (pe_and ha hb) fun σ H Q q => by
    obtain ⟨env, F, ad, c, env', I, hm, k⟩ := q
    unfold eAnd at hm
    split at hm
    · rename_i env1 e1
      refine ⟨env, F, ad, _, env1, I, e1, fun v H' F' ad' I' g r => ⟨true, r.isBool, ?_⟩⟩
      rw [if_pos rfl]
      exact ⟨env1, F', ad', c, env', I', hm, fun v H2 F2 ad2 I2 g2 => k v H2 F2 ad2 I2 (g.trans g2)⟩
    · rename_i env1 e1
      cases hm
      refine ⟨env, F, ad, _, _, I, e1, fun v H' F' ad' I' g r => ⟨false, r.isBool, ?_⟩⟩
      rw [if_neg Bool.false_ne_true]
      exact k _ H' F' ad' I' g (.bl false)
    · cases hm
theorem ed_or (ha : PE X a (tE κ m)) (hb : PE X (.BoolOp .Or (b :: rest) pos) (tE κ n)) : PE X (.BoolOp .Or (a :: b :: rest) pos) (tE κ (eOr m n)) :=
  pe_of (pe_or ha hb) fun σ H Q q => by
    obtain ⟨env, F, ad, c, env', I, hm, k⟩ := q
    unfold eOr at hm
    split at hm
    · rename_i env1 e1
      cases hm
      refine ⟨env, F, ad, _, _, I, e1, fun v H' F' ad' I' g r => ⟨true, r.isBool, ?_⟩⟩
      rw [if_pos rfl]
      exact k _ H' F' ad' I' g (.bl true)
    · rename_i env1 e1
      refine ⟨env, F, ad, _, env1, I, e1, fun v H' F' ad' I' g r => ⟨false, r.isBool, ?_⟩⟩
      rw [if_neg Bool.false_ne_true]
      exact ⟨env1, F', ad', c, env', I', hm, fun v H2 F2 ad2 I2 g2 => k v H2 F2 ad2 I2 (g.trans g2)⟩
    · cases hm
theorem ed_ifx {c : Expr} (hc : PT X c (tT κ t)) (ha : PE X a (tE κ m)) (hb : PE X b (tE κ n)) : PE X (.IfExp c a b pos) (tE κ (eIf t m n)) :=
  pe_of (pe_ifExp hc ha hb) fun σ H Q q => by
    obtain ⟨env, F, ad, d, env', I, hm, k⟩ := q
    unfold eIf at hm
    cases e1 : t env with
    | none => rw [e1] at hm; cases hm
    | some x =>
      obtain ⟨x, env1⟩ := x
      rw [e1, Option.bind_some] at hm
      refine ⟨env, F, ad, x, env1, I, e1, fun H' F' ad' I' g => ?_⟩
      cases x with
      | true =>
        rw [if_pos rfl]
        rw [if_pos rfl] at hm
        exact ⟨env1, F', ad', d, env', I', hm, fun v H2 F2 ad2 I2 g2 => k v H2 F2 ad2 I2 (g.trans g2)⟩
      | false =>
        rw [if_neg Bool.false_ne_true]
        rw [if_neg Bool.false_ne_true] at hm
        exact ⟨env1, F', ad', d, env', I', hm, fun v H2 F2 ad2 I2 g2 => k v H2 F2 ad2 I2 (g.trans g2)⟩
theorem td_val (h : PE X a (tE κ m)) (he : ∀ whole, isTrue a X.env whole = (do let v ← whole; standAt a.pos; holding [v] (truthy v)) := by intro _; rfl) : PT X a (tT κ (tB m)) :=
  pt_of (pt_val h he) fun _ _ _ q => tT_tB q
end DL
/-! The data layer, 3: statements. -/
namespace DL
open PySem L2
inductive Out where
  | nx | rt (d : D) | bk | ct
abbrev P := Env → Option (Out × Env)
def Done (κ : Kx) (Ds : Ends) (F : Hp) (σ : L2.St) (H : Hp) : Out → Prop
  | .nx => Ds.nx σ H
  | .bk => Ds.bk σ H
  | .ct => Ds.ct σ H
  | .rt d => ∀ v, Rep κ F v d → Ds.rt v H
def tS (κ : Kx) (m : P) : TS := fun Ds σ H => ∃ env F ad o env', Sim κ env σ H F ad ∧ m env = some (o, env') ∧
  ∀ σ' H' F' ad', Sim κ env' σ' H' F' ad' → Go env H F ad env' H' F' ad' → Done κ Ds F' σ' H' o
variable {κ : Kx} {X : Cx} {e a b : Expr} {pos : Pos} {st : Stmt} {sts : List Stmt}
def pSkip : P := fun env => some (.nx, env)
def pSeq (m n : P) : P := fun env => match m env with
  | some (.nx, env1) => n env1
  | r => r
theorem sd_nil : PSs X [] (tS κ pSkip) := pss_of pss_nil fun Ds σ H q => by
  obtain ⟨env, F, ad, o, env', I, hm, k⟩ := q
  cases hm
  exact k σ H F ad I Go.refl
theorem sd_cons {m n : P} (h1 : PS X st (tS κ m)) (h2 : PSs X sts (tS κ n)) : PSs X (st :: sts) (tS κ (pSeq m n)) := pss_of (pss_cons h1 h2) fun Ds σ H q => by
  obtain ⟨env, F, ad, o, env', I, hm, k⟩ := q
  unfold pSeq at hm
  split at hm
  · rename_i env1 e1
    exact ⟨env, F, ad, .nx, env1, I, e1, fun σ1 H1 F1 ad1 I1 g1 => ⟨env1, F1, ad1, o, env', I1, hm, fun σ2 H2 F2 ad2 I2 g2 => k σ2 H2 F2 ad2 I2 (g1.trans g2)⟩⟩
  · rename_i hne
    refine ⟨env, F, ad, o, env', I, hm, fun σ1 H1 F1 ad1 I1 g1 => ?_⟩
    have q := k σ1 H1 F1 ad1 I1 g1
    cases o with
    | nx => exact absurd hm (hne env')
    | bk => exact q
    | ct => exact q
    | rt d => exact q
theorem sd_one {m : P} (h1 : PS X st (tS κ m)) : PSs X [st] (tS κ m) := pss_one h1
/-! ### names and targets -/
inductive Pat where
  | v (i : Nat)
  | t (ps : List Pat)
mutual
def bindPat : Pat → D → Env → Option Env
  | .v i, d, env => if i < env.length then some (env.set i (some (.d d))) else none
  | .t ps, .tuple ds, env => bindPats ps ds env
  | .t _, _, _ => none
def bindPats : List Pat → List D → Env → Option Env
  | [], [], env => some env
  | p :: ps, d :: ds, env => (bindPat p d env).bind fun env1 => bindPats ps ds env1
  | _, _, _ => none
end
mutual
def Pat.has : Pat → Nat → Bool
  | .v i, j => i == j
  | .t ps, j => Pat.hasL ps j
def Pat.hasL : List Pat → Nat → Bool
  | [], _ => false
  | p :: ps, j => p.has j || Pat.hasL ps j
end
/-- a name gets data -/
theorem Sim.setD {env : Env} {σ : L2.St} {H F : Hp} {ad : Nat → Addr} (I : Sim κ env σ H F ad) {i : Nat} {v : V} {d : D} (r : Rep κ F v d) (hi : i < env.length) :
    Sim κ (env.set i (some (.d d))) (σ.set i (some v)) H F ad ∧ Go env H F ad (env.set i (some (.d d))) H F ad := by
  refine ⟨⟨by rw [List.length_set, List.length_set]; exact I.len, I.sub, fun j s e => ?_, fun j k s t e1 e2 o1 o2 q => ?_⟩, ⟨fun _ _ e _ _ => e, fun _ e => e, fun _ _ e => e, fun _ e => .inl e, fun _ _ e => .inl e, fun a q => ?_, fun j s e hk => ?_⟩⟩
  · rw [getElem?_set'] at e
    by_cases z : i = j
    · subst z
      rw [if_pos rfl, if_pos hi] at e
      cases e
      exact ⟨v, by rw [List.getElem?_set_self (by rw [← I.len]; exact hi)], r⟩
    · rw [if_neg z] at e
      have q := I.slot j s e
      cases s with
      | d y => obtain ⟨w, e', r'⟩ := q; exact ⟨w, by rw [List.getElem?_set_ne z]; exact e', r'⟩
      | l k xs => obtain ⟨e', hf, vs, hv, r'⟩ := q; exact ⟨by rw [List.getElem?_set_ne z]; exact e', hf, vs, hv, r'⟩
      | m k xs => obtain ⟨e', hf, o, hv, r'⟩ := q; exact ⟨by rw [List.getElem?_set_ne z]; exact e', hf, o, hv, r'⟩
  · rw [getElem?_set'] at e1 e2
    have n1 : i ≠ j := fun z => by
      subst z; rw [if_pos rfl, if_pos hi] at e1
      cases e1
      cases o1
    have n2 : i ≠ k := fun z => by
      subst z; rw [if_pos rfl, if_pos hi] at e2
      cases e2
      cases o2
    rw [if_neg n1] at e1
    rw [if_neg n2] at e2
    exact I.inj j k s t e1 e2 o1 o2 q
  · obtain ⟨j, t, e, hk, ea⟩ := q
    rw [getElem?_set'] at e
    by_cases z : i = j
    · subst z; rw [if_pos rfl, if_pos hi] at e
      cases e
      exact False.elim hk
    · rw [if_neg z] at e; exact .inl ⟨j, t, e, hk, ea⟩
  · rw [getElem?_set'] at e
    by_cases z : i = j
    · subst z; rw [if_pos rfl, if_pos hi] at e
      cases e
      rcases hk with hk | hk <;> exact False.elim hk
    · rw [if_neg z] at e; exact ⟨s, e, rfl, rfl, fun _ => rfl⟩
def tG (κ : Kx) (p : Pat) : TG := fun v σ H Q => ∃ env F ad d env', Sim κ env σ H F ad ∧ Rep κ F v d ∧ bindPat p d env = some env' ∧ ∀ σ', (∀ j, p.has j = false → σ'[j]? = σ[j]?) → Sim κ env' σ' H F ad → Go env H F ad env' H F ad → Q σ' H
def tGs (κ : Kx) (ps : List Pat) : TGs := fun vs σ H Q => ∃ env F ad ds env', Sim κ env σ H F ad ∧ Reps κ F vs ds ∧ bindPats ps ds env = some env' ∧ ∀ σ', (∀ j, Pat.hasL ps j = false → σ'[j]? = σ[j]?) → Sim κ env' σ' H F ad → Go env H F ad env' H F ad → Q σ' H
theorem pg_of {t t' : TG} (h : PG X e t) (w : ∀ v σ H Q, t' v σ H Q → t v σ H Q) : PG X e t' := ⟨fun pins s σ H v u Q I r q => h.run pins s σ H v u Q I r (w v σ H Q q)⟩
theorem pgs_of {es : List Expr} {t t' : TGs} (h : PGs X es t) (w : ∀ v σ H Q, t' v σ H Q → t v σ H Q) : PGs X es t' := ⟨fun pins s σ H v u Q I r q => h.run pins s σ H v u Q I r (w v σ H Q q)⟩
theorem gd_name {i : Nat} (h : PG X e (gName i)) : PG X e (tG κ (.v i)) := pg_of h fun v σ H Q q => by
  obtain ⟨env, F, ad, d, env', I, r, hb, k⟩ := q
  simp only [bindPat] at hb
  split at hb
  · rename_i hi
    cases hb
    obtain ⟨I', g⟩ := I.setD r hi
    exact k _ (fun j hj => List.getElem?_set_ne (by simpa [Pat.has] using hj)) I' g
  · cases hb
theorem gds_nil : PGs X [] (tGs κ []) := pgs_of pgs_nil fun vs σ H Q q => by
  obtain ⟨env, F, ad, ds, env', I, r, hb, k⟩ := q
  cases ds with
  | nil =>
    cases r
    simp only [bindPats] at hb
    cases hb
    exact ⟨rfl, k σ (fun _ _ => rfl) I Go.refl⟩
  | cons d ds => simp only [bindPats] at hb; cases hb
theorem gds_cons {es : List Expr} {p : Pat} {ps : List Pat} (h1 : PG X e (tG κ p)) (h2 : PGs X es (tGs κ ps)) (hs : (assignEach (e :: es) X.env).map (·.2) = assign e X.env :: (assignEach es X.env).map (·.2) := by rfl) : PGs X (e :: es) (tGs κ (p :: ps)) :=
  pgs_of (pgs_cons h1 h2 hs) fun vs σ H Q q => by
    obtain ⟨env, F, ad, ds, env', I, r, hb, k⟩ := q
    cases ds with
    | nil => simp only [bindPats] at hb; cases hb
    | cons d ds =>
      cases r with
      | cons r1 r2 =>
        cases e1 : bindPat p d env with
        | none => simp only [bindPats, e1] at hb; cases hb
        | some env1 =>
          simp only [bindPats, e1, Option.bind_some] at hb
          exact ⟨_, _, rfl, env, F, ad, d, env1, I, r1, e1, fun σ1 w1 I1 g1 => ⟨env1, F, ad, ds, env', I1, r2, hb, fun σ2 w2 I2 g2 => k σ2 (fun j hj => by
            simp only [Pat.hasL, Bool.or_eq_false_iff] at hj
            rw [w2 j hj.2, w1 j hj.1]) I2 (g1.trans g2)⟩⟩
theorem bindPats_len : ∀ {ps : List Pat} {ds : List D} {env env' : Env}, bindPats ps ds env = some env' → ps.length = ds.length
  | [], [], _, _, _ => rfl
  | [], _ :: _, _, _, h => by simp only [bindPats] at h; cases h
  | _ :: _, [], _, _, h => by simp only [bindPats] at h; cases h
  | p :: ps, d :: ds, env, env', h => by
    cases e1 : bindPat p d env with
    | none => simp only [bindPats, e1] at h; cases h
    | some env1 =>
      simp only [bindPats, e1, Option.bind_some] at h
      rw [List.length_cons, List.length_cons, bindPats_len h]
theorem gd_tup {es : List Expr} {k : Nat} {ps : List Pat} (hκ : κ.K = X.K) (hc : X.calm = true) (h : PGs X es (tGs κ ps)) (hn : (assignEach es X.env).length = ps.length := by rfl) (hst : (assignEach es X.env).findIdx? (·.1) = none := by rfl) :
    PG X (.Tuple es k pos) (tG κ (.t ps)) := pg_of (pg_tup hc h hn hst) fun v σ H Q q => by
  obtain ⟨env, F, ad, d, env', I, r, hb, k⟩ := q
  cases d with
  | tuple ds =>
    obtain ⟨a, vs, rfl, h1, h2⟩ := r.isTup
    simp only [bindPat] at hb
    refine ⟨a, vs, rfl, hκ ▸ (I.sub.tupAt h1).sqT, ?_, env, F, ad, ds, env', I, h2, hb, fun σ' w => k σ' fun j hj => w j (by simpa [Pat.has] using hj)⟩
    rw [h2.length, ← bindPats_len hb]
  | _ => simp only [bindPat] at hb; cases hb
/-! ### assignments -/
def pSet (p : Pat) (m : E) : P := fun env => (m env).bind fun a => (bindPat p a.1 a.2).map fun env' => (.nx, env')
theorem asg_of {p : Pat} {m : E} {Ds : Ends} {σ : L2.St} {H : Hp} (q : tS κ (pSet p m) Ds σ H) : tAsg (tE κ m) (tG κ p) Ds σ H := by
  obtain ⟨env, F, ad, o, env', I, hm, k⟩ := q
  unfold pSet at hm
  cases e1 : m env with
  | none => rw [e1] at hm; cases hm
  | some a =>
    rw [e1, Option.bind_some] at hm
    cases e2 : bindPat p a.1 a.2 with
    | none => rw [e2] at hm; cases hm
    | some env2 =>
      rw [e2] at hm
      cases hm
      exact ⟨env, F, ad, a.1, a.2, I, e1, fun v H1 F1 ad1 I1 g1 r1 => ⟨a.2, F1, ad1, a.1, env', I1, r1, e2, fun σ2 _ I2 g2 => k σ2 H1 F1 ad1 I2 (g1.trans g2)⟩⟩
/-- a, b = e -/
theorem sd_unp {p : Pat} {m : E} {tg : Expr} (he : PE X e (tE κ m)) (hg : PG X tg (tG κ p)) (hs : swapsWithSole [tg] e pos.line X.env = pure false := by rfl) (hw : swappedStores [tg] e X.env = pure none := by rfl)
    (h1 : (assignEach [tg] X.env).map (·.2) = [assign tg X.env] := by rfl) : PS X (.Assign [tg] e pos) (tS κ (pSet p m)) := ps_of (ps_asg he hg hs hw h1) fun _ _ _ q => asg_of q
/-- x = e by the plain rule | by that of a comprehension on one line -/
theorem sd_set {i : Nat} {m : E} (h : PS X st (tAsg (tE κ m) (gName i))) : PS X st (tS κ (pSet (.v i) m)) := ps_of h fun Ds σ H q => by
  obtain ⟨env, F, ad, d, env', I, hm, k⟩ := asg_of q
  refine ⟨env, F, ad, d, env', I, hm, fun v H' F' ad' I' g r => ?_⟩
  obtain ⟨env1, F1, ad1, d1, env2, I1, r1, hb, k1⟩ := k v H' F' ad' I' g r
  simp only [bindPat] at hb
  split at hb
  · rename_i hi
    cases hb
    obtain ⟨I2, g2⟩ := I1.setD r1 hi
    exact k1 _ (fun j hj => List.getElem?_set_ne (by simpa [Pat.has] using hj)) I2 g2
  · cases hb
/-- a new list or dict of its own -/
def own : D → Option S
  | .list xs => some (.l .own xs)
  | .dict kvs => some (.m .own kvs)
  | _ => none
def pOwn (i : Nat) (m : E) : P := fun env => (m env).bind fun a => (own a.1).bind fun s => if i < a.2.length then some (.nx, a.2.set i (some s)) else none
def put (ad : Nat → Addr) (i : Nat) (a : Addr) : Nat → Addr := fun j => if j = i then a else ad j
theorem Sim.setO {env : Env} {σ : L2.St} {H F : Hp} {ad : Nat → Addr} (I : Sim κ env σ H F ad) {i : Nat} {a : Addr} {d : D} {s : S} (hi : i < env.length) (hf : F a = none) (hn : ∀ k, ¬ At k env ad a) (ht : TopAt κ H F a d) (ho : own d = some s) :
    Sim κ (env.set i (some s)) (σ.set i (some (.ref a))) H F (put ad i a) := by
  have hi' : i < σ.length := by rw [← I.len]; exact hi
  have no : ∀ j t, env[j]? = some (some t) → t.obj = true → ad j ≠ a := fun j t e o z => by
    obtain ⟨k, hk⟩ := S.obj_is o
    exact hn k ⟨j, t, e, hk, z⟩
  refine ⟨by rw [List.length_set, List.length_set]; exact I.len, I.sub, fun j t e => ?_, fun j k t t' e1 e2 o1 o2 q => ?_⟩
  · rw [getElem?_set'] at e
    by_cases z : i = j
    · subst z
      rw [if_pos rfl, if_pos hi] at e
      cases e
      have ea : put ad i a i = a := by simp [put]
      rw [ea]
      cases d with
      | list xs =>
        cases ho
        obtain ⟨vs, h1, h2⟩ := ht
        exact ⟨by rw [List.getElem?_set_self hi'], hf, vs, h1, h2⟩
      | dict kvs =>
        cases ho
        obtain ⟨o, h1, h2⟩ := ht
        exact ⟨by rw [List.getElem?_set_self hi'], hf, o, h1, h2⟩
      | _ => cases ho
    · rw [if_neg z] at e
      have q := I.slot j t e
      have ea : put ad i a j = ad j := by simp [put, Ne.symm z]
      rw [ea]
      cases t with
      | d y => obtain ⟨w, e', r'⟩ := q; exact ⟨w, by rw [List.getElem?_set_ne z]; exact e', r'⟩
      | l k xs => obtain ⟨e', hf, vs, hv, r'⟩ := q; exact ⟨by rw [List.getElem?_set_ne z]; exact e', hf, vs, hv, r'⟩
      | m k xs => obtain ⟨e', hf, o, hv, r'⟩ := q; exact ⟨by rw [List.getElem?_set_ne z]; exact e', hf, o, hv, r'⟩
  · rw [getElem?_set'] at e1 e2
    by_cases z1 : i = j
    · by_cases z2 : i = k
      · exact z1.symm.trans z2
      · subst z1
        rw [if_neg z2] at e2
        have ea : put ad i a k = ad k := by simp [put, Ne.symm z2]
        have eb : put ad i a i = a := by simp [put]
        rw [ea, eb] at q
        exact absurd q.symm (no k t' e2 o2)
    · rw [if_neg z1] at e1
      have eb : put ad i a j = ad j := by simp [put, Ne.symm z1]
      by_cases z2 : i = k
      · subst z2
        have ea : put ad i a i = a := by simp [put]
        rw [ea, eb] at q
        exact absurd q (no j t e1 o1)
      · rw [if_neg z2] at e2
        have ea : put ad i a k = ad k := by simp [put, Ne.symm z2]
        rw [ea, eb] at q
        exact I.inj j k t t' e1 e2 o1 o2 q
theorem own_is {d : D} {s : S} (h : own d = some s) : s.is .own := by
  cases d <;> simp only [own] at h <;> cases h <;> rfl
theorem sd_own {i : Nat} {m : E} (h : PS X st (tAsg (tO κ m) (gName i))) : PS X st (tS κ (pOwn i m)) := ps_of h fun Ds σ H q => by
  obtain ⟨env, F, ad, o, env', I, hm, k⟩ := q
  unfold pOwn at hm
  cases e1 : m env with
  | none => rw [e1] at hm; cases hm
  | some a =>
    rw [e1, Option.bind_some] at hm
    cases e2 : own a.1 with
    | none => rw [e2] at hm; cases hm
    | some s =>
      rw [e2, Option.bind_some] at hm
      split at hm
      · rename_i hi
        cases hm
        refine ⟨env, F, ad, a.1, a.2, I, e1, fun p H1 F1 ad1 I1 g1 hp hf hn ht => ?_⟩
        refine k _ H1 F1 (put ad1 i p) (I1.setO hi hf hn ht e2) ⟨g1.keep, g1.pres, g1.mono, g1.new, g1.tupb, fun x q => ?_, fun j t e hk => ?_⟩
        · obtain ⟨j, t, e, hk, ea⟩ := q
          rw [getElem?_set'] at e
          by_cases z : i = j
          · subst z
            have eb : put ad1 i p i = p := by simp [put]
            rw [eb] at ea
            exact .inr (ea ▸ hp)
          · rw [if_neg z] at e
            have eb : put ad1 i p j = ad1 j := by simp [put, Ne.symm z]
            rw [eb] at ea
            exact g1.own x ⟨j, t, e, hk, ea⟩
        · rw [getElem?_set'] at e
          by_cases z : i = j
          · subst z
            rw [if_pos rfl, if_pos hi] at e
            cases e
            have := own_is e2
            rcases hk with hk | hk <;> (cases s <;> simp_all [S.is])
          · rw [if_neg z] at e
            have eb : put ad1 i p j = ad1 j := by simp [put, Ne.symm z]
            rw [eb]
            exact g1.brw j t e hk
      · cases hm
/-! ### the rest of the statements -/
def pDrop (m : E) : P := fun env => (m env).map fun a => (.nx, a.2)
theorem sd_expr {m : E} (he : PE X e (tE κ m)) (hs : swapsWith e none pos.line X.env = pure false := by rfl) : PS X (.Expr e pos) (tS κ (pDrop m)) := ps_of (ps_expr he hs) fun Ds σ H q => by
  obtain ⟨env, F, ad, o, env', I, hm, k⟩ := q
  unfold pDrop at hm
  cases e1 : m env with
  | none => rw [e1] at hm; cases hm
  | some a =>
    rw [e1] at hm
    cases hm
    exact ⟨env, F, ad, a.1, a.2, I, e1, fun v H1 F1 ad1 I1 g1 r1 => k σ H1 F1 ad1 I1 g1⟩
def pRet (m : E) : P := fun env => (m env).map fun a => (.rt a.1, a.2)
theorem sd_ret {m : E} (he : PE X e (tE κ m)) : PS X (.Return (some e) pos) (tS κ (pRet m)) := ps_of (ps_ret he) fun Ds σ H q => by
  obtain ⟨env, F, ad, o, env', I, hm, k⟩ := q
  unfold pRet at hm
  cases e1 : m env with
  | none => rw [e1] at hm; cases hm
  | some a =>
    rw [e1] at hm
    cases hm
    exact ⟨env, F, ad, a.1, a.2, I, e1, fun v H1 F1 ad1 I1 g1 r1 => k σ H1 F1 ad1 I1 g1 v r1⟩
def pRetN : P := fun env => some (.rt .none, env)
theorem sd_retN : PS X (.Return none pos) (tS κ pRetN) := ps_of ps_retN fun Ds σ H q => by
  obtain ⟨env, F, ad, o, env', I, hm, k⟩ := q
  cases hm
  exact k σ H F ad I Go.refl .non .non
def pBrk : P := fun env => some (.bk, env)
def pCnt : P := fun env => some (.ct, env)
theorem sd_brk : PS X (.Break pos) (tS κ pBrk) := ps_of ps_break fun Ds σ H q => by
  obtain ⟨env, F, ad, o, env', I, hm, k⟩ := q
  cases hm
  exact k σ H F ad I Go.refl
theorem sd_cnt : PS X (.Continue pos) (tS κ pCnt) := ps_of ps_continue fun Ds σ H q => by
  obtain ⟨env, F, ad, o, env', I, hm, k⟩ := q
  cases hm
  exact k σ H F ad I Go.refl
theorem sd_pass : PS X (.Pass pos) (tS κ pSkip) := ps_of ps_pass fun Ds σ H q => by
  obtain ⟨env, F, ad, o, env', I, hm, k⟩ := q
  cases hm
  exact k σ H F ad I Go.refl
/-- code that is never come to -/
def pNever : P := fun _ => none
theorem sd_never : PS X st (tS κ pNever) := ps_of ps_never fun Ds σ H q => by
  obtain ⟨env, F, ad, o, env', I, hm, k⟩ := q
  cases hm
theorem sds_never : PSs X sts (tS κ pNever) := pss_of pss_never fun Ds σ H q => by
  obtain ⟨env, F, ad, o, env', I, hm, k⟩ := q
  cases hm
def pIf (t : T) (m n : P) : P := fun env => (t env).bind fun a => if a.1 = true then m a.2 else n a.2
theorem Done.mono {Ds : Ends} {F F' : Hp} {σ : L2.St} {H : Hp} {o : Out} (h : Done κ Ds F σ H o) : Done κ Ds F σ H o := h
theorem sd_if {c : Expr} {t : T} {as bs : List Stmt} {m n : P} (hc : PT X c (tT κ t)) (ha : PSs X as (tS κ m)) (hb : PSs X bs (tS κ n)) : PS X (.If c as bs pos) (tS κ (pIf t m n)) := ps_of (ps_if hc ha hb) fun Ds σ H q => by
  obtain ⟨env, F, ad, o, env', I, hm, k⟩ := q
  unfold pIf at hm
  cases e1 : t env with
  | none => rw [e1] at hm; cases hm
  | some x =>
    obtain ⟨x, env1⟩ := x
    rw [e1, Option.bind_some] at hm
    refine ⟨env, F, ad, x, env1, I, e1, fun H' F' ad' I' g => ?_⟩
    cases x with
    | true =>
      rw [if_pos rfl]
      rw [if_pos rfl] at hm
      exact ⟨env1, F', ad', o, env', I', hm, fun σ2 H2 F2 ad2 I2 g2 => k σ2 H2 F2 ad2 I2 (g.trans g2)⟩
    | false =>
      rw [if_neg Bool.false_ne_true]
      rw [if_neg Bool.false_ne_true] at hm
      exact ⟨env1, F', ad', o, env', I', hm, fun σ2 H2 F2 ad2 I2 g2 => k σ2 H2 F2 ad2 I2 (g.trans g2)⟩
/-- while, with at most so many turns -/
def pWhile (t : T) (m : P) : Nat → P
  | 0, _ => none
  | n + 1, env => (t env).bind fun a => if a.1 = true then (match m a.2 with
    | some (.nx, env1) => pWhile t m n env1
    | some (.ct, env1) => pWhile t m n env1
    | some (.bk, env1) => some (.nx, env1)
    | r => r) else some (.nx, a.2)
theorem sd_while {c : Expr} {t : T} {as : List Stmt} {m : P} {fuel : Nat} (hp : PassesOwn (model X.prog X.w) X.A X.env X.xe) (hc : PT X c (tT κ t)) (hb : PSs X as (tS κ m)) : PS X (.While c as [] pos) (tS κ (pWhile t m fuel)) :=
  ps_of (ps_while hp hc hb) fun Ds σ H q => by
    obtain ⟨env, F, ad, o, env', I, hm, k⟩ := q
    refine ⟨fun n σ1 H1 => ∃ env1 F1 ad1, Sim κ env1 σ1 H1 F1 ad1 ∧ Go env H F ad env1 H1 F1 ad1 ∧ pWhile t m n env1 = some (o, env'), ⟨fuel, env, F, ad, I, Go.refl, hm⟩, ?_⟩
    rintro n σ1 H1 ⟨env1, F1, ad1, I1, g1, h1⟩
    cases n with
    | zero => cases h1
    | succ n =>
      simp only [pWhile] at h1
      cases e1 : t env1 with
      | none => rw [e1] at h1; cases h1
      | some x =>
        obtain ⟨x, env2⟩ := x
        rw [e1, Option.bind_some] at h1
        refine ⟨env1, F1, ad1, x, env2, I1, e1, fun H2 F2 ad2 I2 g2 => ?_⟩
        cases x with
        | false =>
          rw [if_neg Bool.false_ne_true]
          rw [if_neg Bool.false_ne_true] at h1
          cases h1
          exact k σ1 H2 F2 ad2 I2 (g1.trans g2)
        | true =>
          rw [if_pos rfl]
          rw [if_pos rfl] at h1
          refine ⟨fun σ3 H3 => ∃ env3 F3 ad3, Sim κ env3 σ3 H3 F3 ad3 ∧ Go env H F ad env3 H3 F3 ad3 ∧ pWhile t m n env3 = some (o, env'), fun σ3 H3 w => ⟨n, Nat.lt_succ_self n, w⟩, ?_⟩
          cases e2 : m env2 with
          | none => rw [e2] at h1; cases h1
          | some y =>
            obtain ⟨o2, env3⟩ := y
            rw [e2] at h1
            refine ⟨env2, F2, ad2, o2, env3, I2, e2, fun σ3 H3 F3 ad3 I3 g3 => ?_⟩
            have g := (g1.trans g2).trans g3
            cases o2 with
            | nx => exact ⟨env3, F3, ad3, I3, g, h1⟩
            | ct => exact ⟨env3, F3, ad3, I3, g, h1⟩
            | bk =>
              cases h1
              exact k σ3 H3 F3 ad3 I3 g
            | rt d =>
              cases h1
              exact k σ3 H3 F3 ad3 I3 g
end DL
/-! The data layer, 4: what is walked; for; comprehensions. -/
namespace DL
open PySem L2
variable {κ : Kx} {X : Cx} {e a b : Expr} {pos : Pos}
/-- a heap behind the one at which a loop begins -/
def Later (env1 : Env) (H1 F1 : Hp) (ad1 : Nat → Addr) (H F : Hp) : Prop := Sub F H ∧ ∃ env ad, Go env1 H1 F1 ad1 env H F ad
theorem Later.back {env1 envc : Env} {H1 F1 H F : Hp} {ad1 adc : Nat → Addr} (l : Later envc H1 F1 adc H F) (g : Go env1 H1 F1 ad1 envc H1 F1 adc) : Later env1 H1 F1 ad1 H F := by
  obtain ⟨s, env, ad, q⟩ := l
  exact ⟨s, env, ad, g.trans q⟩
structure ItOk (κ : Kx) (J : It) (ds : List D) (C : Hp → Hp → Prop) : Prop where
  stop : ∀ H F, C H F → J.stop ds.length H
  go : ∀ i H F, i < ds.length → C H F → J.go i H
  yld : ∀ i H F x H', i < ds.length → C H F → J.yld i H x H' → ∃ F' d, ds[i]? = some d ∧ Ext H F H' F' ∧ Rep κ F' x d
abbrev I := Env → Option (List D × Env)
def tI (κ : Kx) (m : I) : TI := fun σ H R => ∃ env F ad ds env', Sim κ env σ H F ad ∧ m env = some (ds, env') ∧
  ∀ J H' F' ad', Sim κ env' σ H' F' ad' → Go env H F ad env' H' F' ad' → ItOk κ J ds (Later env' H' F' ad') → R J H'
theorem pi_of {tg : Expr} {t t' : TI} (h : PI X tg e t) (w : ∀ σ H R, t' σ H R → t σ H R) : PI X tg e t' := ⟨fun pins s σ H R I q => h.run pins s σ H R I (w σ H R q)⟩
theorem pi_or {tg : Expr} {t t' : TI} (h : PI X tg e t) (h' : PI X tg e t') : PI X tg e (fun σ H R => t σ H R ∨ t' σ H R) := ⟨fun pins s σ H R I q => by
  rcases q with q | q
  · exact h.run pins s σ H R I q
  · exact h'.run pins s σ H R I q⟩
/-! ### for -/
def forL (p : Pat) (body : P) : List D → P
  | [], env => some (.nx, env)
  | d :: ds, env => (bindPat p d env).bind fun env1 => match body env1 with
    | some (.nx, env2) => forL p body ds env2
    | some (.ct, env2) => forL p body ds env2
    | some (.bk, env2) => some (.nx, env2)
    | r => r
def pFor (it : I) (p : Pat) (body : P) : P := fun env => (it env).bind fun a => forL p body a.1 a.2
theorem drop_cons {ds : List D} {i : Nat} (h : i < ds.length) : ds.drop i = ds[i] :: ds.drop (i + 1) := List.drop_eq_getElem_cons h
theorem sd_for {tg iter : Expr} {bs : List Stmt} {it : I} {p : Pat} {m : P} (hp : PassesOwn (model X.prog X.w) X.A X.env X.xe) (hc : X.calm = true) (hi : PI X tg iter (tI κ it)) (hg : PG X tg (tG κ p)) (hb : PSs X bs (tS κ m))
    (hs : ∀ x, foldedSetIterable iter X.env x = pure x := by intro _; rfl) : PS X (.For tg iter bs [] pos) (tS κ (pFor it p m)) :=
  ps_of (ps_for hp hc hi hg hb hs) fun Ds σ H q => by
    obtain ⟨env, F, ad, o, env', I, hm, k⟩ := q
    unfold pFor at hm
    cases e1 : it env with
    | none => rw [e1] at hm; cases hm
    | some a =>
      obtain ⟨ds, env1⟩ := a
      rw [e1, Option.bind_some] at hm
      refine ⟨env, F, ad, ds, env1, I, e1, fun J H1 F1 ad1 I1 g1 ok => ?_⟩
      refine ⟨fun i n σ2 H2 => n = ds.length - i ∧ i ≤ ds.length ∧ ∃ env2 F2 ad2, Sim κ env2 σ2 H2 F2 ad2 ∧ Go env1 H1 F1 ad1 env2 H2 F2 ad2 ∧ forL p m (ds.drop i) env2 = some (o, env'), ⟨ds.length, by simp, Nat.zero_le _, env1, F1, ad1, I1, Go.refl, hm⟩, ?_⟩
      rintro i n σ2 H2 ⟨rfl, hi, env2, F2, ad2, I2, g2, h2⟩
      have lat : Later env1 H1 F1 ad1 H2 F2 := ⟨I2.sub, env2, ad2, g2⟩
      by_cases hlt : i < ds.length
      · refine .inr ⟨ok.go i H2 F2 hlt lat, fun σ5 H5 => ∃ env5 F5 ad5, Sim κ env5 σ5 H5 F5 ad5 ∧ Go env1 H1 F1 ad1 env5 H5 F5 ad5 ∧ forL p m (ds.drop (i + 1)) env5 = some (o, env'), fun σ5 H5 w => ⟨ds.length - (i + 1), by omega, rfl, hlt, w⟩, fun x H3 y => ?_⟩
        obtain ⟨F3, d, hd, xt, rx⟩ := ok.yld i H2 F2 x H3 hlt lat y
        rw [drop_cons hlt] at h2
        have ed : ds[i] = d := by rw [List.getElem?_eq_getElem hlt] at hd; exact Option.some.inj hd
        rw [ed] at h2
        simp only [forL] at h2
        cases e3 : bindPat p d env2 with
        | none => rw [e3] at h2; cases h2
        | some env3 =>
          rw [e3, Option.bind_some] at h2
          refine ⟨env2, F3, ad2, d, env3, I2.ext xt, rx, e3, fun σ3 _ I3 g3 => ?_⟩
          cases e4 : m env3 with
          | none => rw [e4] at h2; cases h2
          | some z =>
            obtain ⟨o4, env4⟩ := z
            rw [e4] at h2
            refine ⟨env3, F3, ad2, o4, env4, I3, e4, fun σ4 H4 F4 ad4 I4 g4 => ?_⟩
            have g := ((g2.trans (Go.ext xt)).trans g3).trans g4
            cases o4 with
            | nx => exact ⟨env4, F4, ad4, I4, g, h2⟩
            | ct => exact ⟨env4, F4, ad4, I4, g, h2⟩
            | bk => cases h2; exact k σ4 H4 F4 ad4 I4 (g1.trans g)
            | rt d => cases h2; exact k σ4 H4 F4 ad4 I4 (g1.trans g)
      · have ei : i = ds.length := by omega
        subst ei
        rw [List.drop_length] at h2
        simp only [forL] at h2
        cases h2
        exact .inl ⟨ok.stop H2 F2 lat, k σ2 H2 F2 ad2 I2 (g1.trans g2)⟩
/-! ### comprehensions -/
mutual
theorem bindPat_len : ∀ (p : Pat) (d : D) (env env' : Env), bindPat p d env = some env' → env'.length = env.length
  | .v i, d, env, env', h => by
    simp only [bindPat] at h
    split at h
    · cases h; rw [List.length_set]
    · cases h
  | .t ps, .tuple ds, env, env', h => by
    simp only [bindPat] at h
    exact bindPats_len' ps ds env env' h
  | .t _, .none, _, _, h => by simp only [bindPat] at h; cases h
  | .t _, .bool _, _, _, h => by simp only [bindPat] at h; cases h
  | .t _, .int _, _, _, h => by simp only [bindPat] at h; cases h
  | .t _, .str _, _, _, h => by simp only [bindPat] at h; cases h
  | .t _, .list _, _, _, h => by simp only [bindPat] at h; cases h
  | .t _, .dict _, _, _, h => by simp only [bindPat] at h; cases h
theorem bindPats_len' : ∀ (ps : List Pat) (ds : List D) (env env' : Env), bindPats ps ds env = some env' → env'.length = env.length
  | [], [], _, _, h => by simp only [bindPats] at h; cases h; rfl
  | [], _ :: _, _, _, h => by simp only [bindPats] at h; cases h
  | _ :: _, [], _, _, h => by simp only [bindPats] at h; cases h
  | p :: ps, d :: ds, env, env', h => by
    cases e1 : bindPat p d env with
    | none => simp only [bindPats, e1] at h; cases h
    | some env1 =>
      simp only [bindPats, e1, Option.bind_some] at h
      rw [bindPats_len' ps ds env1 env' h, bindPat_len p d env env1 e1]
end
/-- a heap that had nothing at p -/
theorem Go.out {env env' : Env} {H H' F F' : Hp} {ad ad' : Nat → Addr} {p : Addr} {o : HO} (g : Go env H F ad env' H' F' ad') (hp : H p = none) (ho : ∀ vs, o ≠ .tup vs) : Go env H F ad env' (upd H' p o) F' ad' := by
  have ne : ∀ a o', H a = some o' → a ≠ p := fun a o' e z => by rw [z, hp] at e; cases e
  refine ⟨fun a o' e n1 n2 => by rw [upd_ne (ne a o' e)]; exact g.keep a o' e n1 n2, fun a h => ?_, g.mono, g.new, fun a vs h => ?_, g.own, g.brw⟩
  · by_cases z : a = p
    · subst z; exact absurd hp h
    · rw [upd_ne z]; exact g.pres a h
  · by_cases z : a = p
    · subst z; rw [upd_same] at h; cases h; exact absurd rfl (ho vs)
    · rw [upd_ne z] at h; exact g.tupb a vs h
/-- an object that is nobody's and is not data stays so -/
theorem Go.other {env env' : Env} {H H' F F' : Hp} {ad ad' : Nat → Addr} {p : Addr} {vs : List V} (g : Go env H F ad env' H' F' ad') (h : H p = some (.lst vs)) (hf : F p = none) (hn : ∀ k, ¬ At k env ad p) :
    H' p = some (.lst vs) ∧ F' p = none ∧ ∀ k, ¬ At k env' ad' p := by
  refine ⟨g.keep p _ h (hn _) (hn _), ?_, fun k q => ?_⟩
  · cases e : F' p with
    | none => rfl
    | some u =>
      rcases g.new p (by rw [e]; simp) with q | q | q | ⟨ws, q⟩
      · exact absurd hf q
      · rw [h] at q; cases q
      · exact absurd q (hn _)
      · rw [h] at q; cases q
  · have br : k = .rw ∨ k = .ro → False := fun hk => by
      obtain ⟨i, s, e, hs, ea⟩ := q
      obtain ⟨s0, e0, sh, eb, _⟩ := g.brw i s e (by rcases hk with rfl | rfl; exact .inl hs; exact .inr hs)
      exact hn k ⟨i, s0, e0, (S.shape_rw sh k).mpr hs, by rw [← eb]; exact ea⟩
    cases k with
    | ro => exact br (.inr rfl)
    | rw => exact br (.inl rfl)
    | own =>
      rcases g.own p q with q | q
      · exact hn _ q
      · rw [h] at q; cases q
def clear (vs : List Nat) (env : Env) : Env := vs.foldl (fun e i => e.set i none) env
theorem clear_get (vs : List Nat) : ∀ (env : Env) (i : Nat), (clear vs env)[i]? = if i ∈ vs ∧ i < env.length then some none else env[i]? := by
  induction vs with
  | nil => intro env i; simp [clear]
  | cons v vs ih =>
    intro env i
    show (clear vs (env.set v none))[i]? = _
    rw [ih]
    by_cases h1 : i ∈ vs ∧ i < env.length
    · rw [if_pos (by rw [List.length_set]; exact h1), if_pos ⟨List.mem_cons_of_mem _ h1.1, h1.2⟩]
    · rw [if_neg (by rw [List.length_set]; exact h1), getElem?_set']
      by_cases h2 : v = i
      · subst h2
        rw [if_pos rfl]
        by_cases h3 : v < env.length
        · rw [if_pos h3, if_pos ⟨List.mem_cons_self, h3⟩]
        · rw [if_neg h3, if_neg (by simp [h3])]
          exact (List.getElem?_eq_none (by omega)).symm
      · rw [if_neg h2]
        rw [if_neg]
        rintro ⟨h3, h4⟩
        rcases List.mem_cons.mp h3 with h3 | h3
        · exact h2 h3.symm
        · exact h1 ⟨h3, h4⟩
theorem clear_length (vs : List Nat) : ∀ env : Env, (clear vs env).length = env.length := by
  induction vs with
  | nil => intro env; rfl
  | cons v vs ih => intro env; show (clear vs (env.set v none)).length = _; rw [ih, List.length_set]
def bare (vs : List Nat) (env : Env) : Bool := vs.all fun i => match env[i]? with
  | some (some _) => false
  | _ => true
theorem bare_at {vs : List Nat} {env : Env} (h : bare vs env = true) {i : Nat} (hi : i ∈ vs) {s : S} (e : env[i]? = some (some s)) : False := by
  have q := List.all_eq_true.mp h i hi
  simp only [e] at q
  cases q
theorem bare_clear (vs : List Nat) (env : Env) : bare vs (clear vs env) = true := List.all_eq_true.mpr fun i hi => by
  cases q : (clear vs env)[i]? with
  | none => rfl
  | some o =>
    cases o with
    | none => rfl
    | some s =>
      rw [clear_get] at q
      split at q
      · cases q
      · rename_i hn
        have : i < env.length := by
          cases h : decide (i < env.length) with
          | true => exact of_decide_eq_true h
          | false => rw [List.getElem?_eq_none (by have := of_decide_eq_false h; omega)] at q; cases q
        exact absurd ⟨hi, this⟩ hn
/-- slots forgotten -/
theorem Sim.clear {env : Env} {σ : L2.St} {H F : Hp} {ad : Nat → Addr} (I : Sim κ env σ H F ad) (vs : List Nat) : Sim κ (clear vs env) σ H F ad ∧ Go env H F ad (DL.clear vs env) H F ad := by
  have sub : ∀ i s, (DL.clear vs env)[i]? = some (some s) → env[i]? = some (some s) := fun i s e => by
    rw [clear_get] at e
    split at e
    · cases e
    · exact e
  exact ⟨⟨by rw [clear_length]; exact I.len, I.sub, fun i s e => I.slot i s (sub i s e), fun i j s t e1 e2 => I.inj i j s t (sub i s e1) (sub j t e2)⟩,
    ⟨fun _ _ e _ _ => e, fun _ e => e, fun _ _ e => e, fun _ e => .inl e, fun _ _ e => .inl e, fun a ⟨j, t, e, hk, ea⟩ => .inl ⟨j, t, sub j t e, hk, ea⟩, fun j t e hk => ⟨t, sub j t e, rfl, rfl, fun _ => rfl⟩⟩⟩
/-- other slots, the same where something stands -/
theorem Sim.slots {env : Env} {σ σ' : L2.St} {H F : Hp} {ad : Nat → Addr} (I : Sim κ env σ H F ad) (hl : σ'.length = σ.length) (h : ∀ (i : Nat) (s : S) (v : V), env[i]? = some (some s) → σ[i]? = some (some v) → σ'[i]? = some (some v)) : Sim κ env σ' H F ad :=
  ⟨I.len.trans hl.symm, I.sub, fun i s e => by
    have q := I.slot i s e
    cases s with
    | d y => obtain ⟨w, e', r'⟩ := q; exact ⟨w, h i _ w e e', r'⟩
    | l k xs => obtain ⟨e', hf, vs, hv, r'⟩ := q; exact ⟨h i _ _ e e', hf, vs, hv, r'⟩
    | m k xs => obtain ⟨e', hf, o, hv, r'⟩ := q; exact ⟨h i _ _ e e', hf, o, hv, r'⟩, I.inj⟩
/-- an object that is nobody's changes -/
theorem Sim.out {env : Env} {σ : L2.St} {H F : Hp} {ad : Nat → Addr} {p : Addr} {o : HO} (I : Sim κ env σ H F ad) (hf : F p = none) (hn : ∀ k, ¬ At k env ad p) : Sim κ env σ (upd H p o) F ad := by
  refine ⟨I.len, fun a u e => ?_, fun i s e => ?_, I.inj⟩
  · have ne : a ≠ p := fun z => by subst z; rw [hf] at e; cases e
    rw [upd_ne ne]
    exact I.sub a u e
  · have ne : s.obj = true → ad i ≠ p := fun ho z => by
      obtain ⟨k, hk⟩ := S.obj_is ho
      exact hn k ⟨i, s, e, hk, z⟩
    have q := I.slot i s e
    have ob : ∀ {k : Kd} {o'}, ad i ≠ p → ObjAt k H (ad i) o' → ObjAt k (upd H p o) (ad i) o' := fun {k o'} z h => by
      cases k with
      | ro => rcases h with h | ⟨od, h⟩; exact .inl (by rw [upd_ne z]; exact h); exact .inr ⟨od, by rw [upd_ne z]; exact h⟩
      | rw => show upd H p o (ad i) = _; rw [upd_ne z]; exact h
      | own => show upd H p o (ad i) = _; rw [upd_ne z]; exact h
    cases s with
    | d y => exact q
    | l k xs => obtain ⟨e', hf', vs, hv, r'⟩ := q; exact ⟨e', hf', vs, ob (ne rfl) hv, r'⟩
    | m k xs => obtain ⟨e', hf', o', hv, r'⟩ := q; exact ⟨e', hf', o', ob (ne rfl) hv, r'⟩
/-- what is built: the items' values so far, last first is not kept: in order -/
def compL (p : Pat) (vs : List Nat) (t : T) (m : E) : List D → List D → Env → Option (D × Env)
  | [], acc, env => some (.list acc, env)
  | d :: ds, acc, env => (bindPat p d env).bind fun env1 => (t env1).bind fun b =>
    if b.1 = true then (m b.2).bind fun r => if acc.length < sizeLine then compL p vs t m ds (acc ++ [r.1]) (clear vs r.2) else none
    else compL p vs t m ds acc (clear vs b.2)
def inVs (p : Pat) (vs : List Nat) (n : Nat) : Bool := (List.range n).all fun j => !p.has j || vs.contains j
/-- no slot of vs holds an object -/
def datas (vs : List Nat) (env : Env) : Bool := vs.all fun i => match env[i]? with
  | some (some (.l _ _)) => false
  | some (some (.m _ _)) => false
  | _ => true
def restore (vs : List Nat) (env0 env : Env) : Env := vs.foldl (fun e i => e.set i (env0[i]?.bind id)) env
theorem restore_get (env0 : Env) (vs : List Nat) : ∀ (env : Env) (i : Nat), (restore vs env0 env)[i]? = if i ∈ vs ∧ i < env.length then some (env0[i]?.bind id) else env[i]? := by
  induction vs with
  | nil => intro env i; simp [restore]
  | cons v vs ih =>
    intro env i
    show (restore vs env0 (env.set v (env0[v]?.bind id)))[i]? = _
    rw [ih]
    by_cases h1 : i ∈ vs ∧ i < env.length
    · rw [if_pos (by rw [List.length_set]; exact h1), if_pos ⟨List.mem_cons_of_mem _ h1.1, h1.2⟩]
    · rw [if_neg (by rw [List.length_set]; exact h1), List.getElem?_set]
      by_cases h2 : v = i
      · subst h2
        rw [if_pos rfl]
        by_cases h3 : v < env.length
        · rw [if_pos h3, if_pos ⟨List.mem_cons_self, h3⟩]
        · rw [if_neg h3, if_neg (by simp [h3])]
          exact (List.getElem?_eq_none (by omega)).symm
      · rw [if_neg h2]
        rw [if_neg]
        rintro ⟨h3, h4⟩
        rcases List.mem_cons.mp h3 with h3 | h3
        · exact h2 h3.symm
        · exact h1 ⟨h3, h4⟩
theorem restore_length (env0 : Env) (vs : List Nat) : ∀ env : Env, (restore vs env0 env).length = env.length := by
  induction vs with
  | nil => intro env; rfl
  | cons v vs ih => intro env; show (restore vs env0 (env.set v _)).length = _; rw [ih, List.length_set]
theorem Sim.restore {env0 env : Env} {σ : L2.St} {H0 F0 H F : Hp} {ad0 ad : Nat → Addr} (I : Sim κ env σ H F ad) (I0 : Sim κ env0 σ H0 F0 ad0) (sF : Sub F0 F) (vs : List Nat) (hd : datas vs env0 = true) :
    Sim κ (DL.restore vs env0 env) σ H F ad ∧ ∀ (i : Nat) (s : S), (DL.restore vs env0 env)[i]? = some (some s) → s.obj = true → env[i]? = some (some s) := by
  have cases' : ∀ (i : Nat) (s : S), (DL.restore vs env0 env)[i]? = some (some s) → (i ∈ vs ∧ env0[i]? = some (some s)) ∨ env[i]? = some (some s) := fun i s e => by
    rw [restore_get] at e
    split at e
    · rename_i h
      refine .inl ⟨h.1, ?_⟩
      cases q : env0[i]? with
      | none => rw [q] at e; cases e
      | some o => rw [q] at e; cases o with
        | none => cases e
        | some t => cases e; rfl
    · exact .inr e
  have ob : ∀ (i : Nat) (s : S), (DL.restore vs env0 env)[i]? = some (some s) → s.obj = true → env[i]? = some (some s) := fun i s e o => by
    rcases cases' i s e with ⟨h1, h2⟩ | h
    · have q := List.all_eq_true.mp hd i h1
      rw [h2] at q
      cases s with
      | d x => cases o
      | l k xs => exact absurd q Bool.false_ne_true
      | m k xs => exact absurd q Bool.false_ne_true
    · exact h
  refine ⟨⟨(restore_length env0 vs env).trans I.len, I.sub, fun i s e => ?_, fun i j s t e1 e2 o1 o2 q => I.inj i j s t (ob i s e1 o1) (ob j t e2 o2) o1 o2 q⟩, ob⟩
  cases ho : s.obj with
  | true => exact I.slot i s (ob i s e ho)
  | false =>
    cases s with
    | d x =>
      rcases cases' i _ e with ⟨h1, h2⟩ | h
      · obtain ⟨v, hv, r⟩ := I0.slot i _ h2
        exact ⟨v, hv, r.mono sF⟩
      · exact I.slot i _ h
    | l k xs => cases ho
    | m k xs => cases ho
theorem Go.restore {env1 env0 env : Env} {H1 F1 H F : Hp} {ad1 ad : Nat → Addr} {vs : List Nat} (g : Go env1 H1 F1 ad1 env H F ad) (ob : ∀ (i : Nat) (s : S), (DL.restore vs env0 env)[i]? = some (some s) → s.obj = true → env[i]? = some (some s)) : Go env1 H1 F1 ad1 (DL.restore vs env0 env) H F ad :=
  ⟨g.keep, g.pres, g.mono, g.new, g.tupb, fun a ⟨i, s, e, hk, ea⟩ => g.own a ⟨i, s, ob i s e (by cases s <;> first | rfl | exact False.elim hk), hk, ea⟩,
    fun i s e hk => g.brw i s (ob i s e (by cases s <;> first | rfl | (rcases hk with hk | hk <;> exact False.elim hk))) hk⟩
def eComp (it : I) (p : Pat) (vs : List Nat) (t : T) (m : E) : E := fun env => (it env).bind fun a => if datas vs a.2 = true ∧ inVs p vs a.2.length = true then (compL p vs t m a.1 [] (clear vs a.2)).map fun r => (r.1, restore vs a.2 r.2) else none
def tTrue : T := fun env => some (true, env)
theorem tt_nil : PTs X [] (tT κ tTrue) := ⟨fun pins s σ H Q I q => pts_nil.run pins s σ H Q I (by
  obtain ⟨env, F, ad, b, env', I, hm, k⟩ := q
  cases hm
  exact k H F ad I Go.refl)⟩
theorem tt_one {c : Expr} {t : T} (h : PT X c (tT κ t)) : PTs X [c] (tT κ t) := pts_one h
theorem wipe_same {σ σ' : L2.St} {vs : List Nat} (hl : σ'.length = σ.length) (h : ∀ j, j ∉ vs → σ'[j]? = σ[j]?) : wipe σ' vs = wipe σ vs := by
  apply List.ext_getElem?
  intro j
  by_cases hj : j ∈ vs
  · have gen : ∀ (τ : L2.St) (vs : List Nat), j ∈ vs → (wipe τ vs)[j]? = if j < τ.length then some none else none := by
      intro τ vs
      induction vs with
      | nil => intro h; cases h
      | cons v vs ih =>
        intro h
        show ((wipe τ vs).set v none)[j]? = _
        rw [List.getElem?_set]
        by_cases e : v = j
        · subst e
          rw [if_pos rfl, wipe_length]
        · rw [if_neg e]
          exact ih ((List.mem_cons.mp h).resolve_left fun z => e z.symm)
    rw [gen σ' vs hj, gen σ vs hj, hl]
  · rw [wipe_out hj, wipe_out hj, h j hj]
theorem comp_of {it : I} {p : Pat} {vs : List Nat} {t : T} {m : E} {σ : L2.St} {H : Hp} {Q : VK} (q : tO κ (eComp it p vs t m) σ H Q) : tLc (tI κ it) (tG κ p) (tT κ t) (tE κ m) vs σ H Q := by
  obtain ⟨env, F, ad, dres, env', I, hm, k⟩ := q
  unfold eComp at hm
  cases e1 : it env with
  | none => rw [e1] at hm; cases hm
  | some a =>
    obtain ⟨ds, env1⟩ := a
    rw [e1, Option.bind_some] at hm
    by_cases hb' : datas vs env1 = true ∧ inVs p vs env1.length = true
    · rw [if_pos hb'] at hm
      dsimp only at hm
      cases ec : compL p vs t m ds [] (clear vs env1) with
      | none => rw [ec] at hm; cases hm
      | some rr =>
      obtain ⟨dres', envE⟩ := rr
      rw [ec] at hm
      cases hm
      refine ⟨env, F, ad, ds, env1, I, e1, fun J H1 F1 ad1 I1' g1 ok' Dl hD => ?_⟩
      have I1 := (I1'.clear vs).1
      have g1c := (I1'.clear vs).2
      have hb : bare vs (clear vs env1) = true ∧ inVs p vs (clear vs env1).length = true := ⟨bare_clear vs env1, by rw [clear_length]; exact hb'.2⟩
      have ok : ItOk κ J ds (Later (clear vs env1) H1 F1 ad1) := ⟨fun H F l => ok'.stop H F (l.back g1c), fun i H F hi l => ok'.go i H F hi (l.back g1c), fun i H F x H' hi l y => ok'.yld i H F x H' hi (l.back g1c) y⟩
      have fin : ∀ {env2 : Env} {H2 F2 : Hp} {ad2 : Nat → Addr}, Sim κ env2 σ H2 F2 ad2 → Go (clear vs env1) H1 F1 ad1 env2 H2 F2 ad2 → Sim κ (restore vs env1 env2) σ H2 F2 ad2 ∧ Go env1 H1 F1 ad1 (restore vs env1 env2) H2 F2 ad2 ∧ ∀ kd a, At kd (restore vs env1 env2) ad2 a → At kd env2 ad2 a := fun {env2 H2 F2 ad2} I2 g2 => by
        obtain ⟨q1, q2⟩ := I2.restore I1' g2.sub vs hb'.1
        exact ⟨q1, (g1c.trans g2).restore q2, fun kd a ⟨i, s, e, hk, ea⟩ => ⟨i, s, q2 i s e (by cases s <;> first | rfl | exact False.elim hk), hk, ea⟩⟩
      obtain ⟨envc, hec⟩ : ∃ x, x = clear vs env1 := ⟨_, rfl⟩
      rw [← hec] at ec I1 g1c hb ok fin
      have hm := ec
      have lenσ := I1.len
      have wl : (wipe σ vs).length = σ.length := wipe_length σ vs
      have fD : F1 Dl = none := by
        cases e : F1 Dl with
        | none => rfl
        | some u => exact absurd hD (I1.sub.ne_none (by rw [e]; simp))
      -- what holds at a turn
      let Pv : Nat → Hp → Prop := fun i H2 => ∃ env2 F2 ad2 acc vacc, Sim κ env2 (wipe σ vs) H2 F2 ad2 ∧ Go envc H1 F1 ad1 env2 H2 F2 ad2 ∧ bare vs env2 = true ∧ env2.length = envc.length ∧ F2 Dl = none ∧ (∀ kd, ¬ At kd env2 ad2 Dl) ∧ H2 Dl = some (.lst vacc) ∧ Reps κ F2 vacc acc ∧ compL p vs t m (ds.drop i) acc env2 = some (dres', envE)
      have s0 : Sim κ envc (wipe σ vs) (upd H1 Dl (.lst [])) F1 ad1 := (I1.slots wl fun i s v e1 e2 => by
        have : i ∉ vs := fun hi => bare_at hb.1 hi e1
        rw [wipe_out this]; exact e2).ext (Ext.laid I1.sub hD).1
      refine ⟨fun i n H2 => n = ds.length - i ∧ i ≤ ds.length ∧ Pv i H2, ⟨ds.length, by simp, Nat.zero_le _, envc, F1, ad1, [], [], s0, Go.ext (Ext.laid I1.sub hD).1, hb.1, rfl, fD, fun kd => I1.fresh hD kd, upd_same, .nil, hm⟩, ?_⟩
      rintro i n H2 ⟨rfl, hi, env2, F2, ad2, acc, vacc, I2, g2, b2, l2, f2, n2, h2, r2, hc⟩
      have lat : Later envc H1 F1 ad1 H2 F2 := ⟨I2.sub, env2, ad2, g2⟩
      by_cases hlt : i < ds.length
      · refine .inr ⟨ok.go i H2 F2 hlt lat, Pv (i + 1), fun H5 w => ⟨ds.length - (i + 1), by omega, rfl, hlt, w⟩, fun x H3 y => ?_⟩
        obtain ⟨F3, d, hd, xt, rx⟩ := ok.yld i H2 F2 x H3 hlt lat y
        rw [drop_cons hlt] at hc
        have ed : ds[i] = d := by rw [List.getElem?_eq_getElem hlt] at hd; exact Option.some.inj hd
        rw [ed] at hc
        simp only [compL] at hc
        cases e3 : bindPat p d env2 with
        | none => rw [e3] at hc; cases hc
        | some env3 =>
          rw [e3, Option.bind_some] at hc
          refine ⟨env2, F3, ad2, d, env3, I2.ext xt, rx, e3, fun σ3 w3 I3 g3 => ⟨?_, ?_⟩⟩
          · have l3 : σ3.length = σ.length := by
              have q1 := I3.len
              have q2 := (I2.ext xt).len
              have q3 : env3.length = env2.length := by
                exact bindPat_len p d env2 env3 e3
              omega
            have ww : wipe (wipe σ vs) vs = wipe σ vs := wipe_same wl fun j hj => wipe_out hj
            rw [← ww]
            refine wipe_same (by rw [wl]; exact l3) fun j hj => ?_
            by_cases hjl : j < envc.length
            · refine w3 j ?_
              have q := List.all_eq_true.mp hb.2 j (List.mem_range.mpr hjl)
              cases hp : p.has j with
              | false => rfl
              | true =>
                rw [hp] at q
                simp only [Bool.not_true, Bool.false_or, List.contains_iff_mem] at q
                exact absurd q hj
            · rw [List.getElem?_eq_none (by omega), List.getElem?_eq_none (by omega)]
          · cases e4 : t env3 with
            | none => rw [e4] at hc; cases hc
            | some z =>
              obtain ⟨bz, env4⟩ := z
              rw [e4, Option.bind_some] at hc
              refine ⟨env3, F3, ad2, bz, env4, I3, e4, fun H4 F4 ad4 I4 g4 => ?_⟩
              have out : ∀ (i : Nat), i ∉ vs → i < envc.length → p.has i = false := fun i hi hl => by
                have q := List.all_eq_true.mp hb.2 i (List.mem_range.mpr hl)
                cases hp : p.has i with
                | false => rfl
                | true =>
                  rw [hp] at q
                  simp only [Bool.not_true, Bool.false_or, List.contains_iff_mem] at q
                  exact absurd q hi
              have l3 : env3.length = envc.length := by rw [bindPat_len p d env2 env3 e3]; exact l2
              -- back to the slots ahead of the turn
              have back : ∀ {env5 : Env} {H5 F5 : Hp} {ad5 : Nat → Addr}, Sim κ env5 σ3 H5 F5 ad5 → Sim κ (clear vs env5) (wipe σ vs) H5 F5 ad5 := fun {env5 H5 F5 ad5} I5 => by
                have e5 : env5.length = envc.length := by
                  have q1 := I5.len
                  have q2 := I3.len
                  omega
                refine (I5.clear vs).1.slots (by have q2 := I3.len; omega) fun i s v q1 q2 => ?_
                have hv : i ∉ vs := fun hi => bare_at (bare_clear vs env5) hi q1
                have hl : i < envc.length := by
                  rw [clear_get] at q1
                  split at q1
                  · cases q1
                  · have : i < env5.length := (List.getElem?_eq_some_iff.mp q1).1
                    omega
                rw [← w3 i (out i hv hl)]
                exact q2
              cases bz with
              | true =>
                rw [if_pos rfl] at hc
                dsimp only
                rw [if_pos rfl]
                cases e5 : m env4 with
                | none => rw [e5] at hc; cases hc
                | some r =>
                  obtain ⟨rd, env5⟩ := r
                  rw [e5, Option.bind_some] at hc
                  by_cases hz : acc.length < sizeLine
                  · rw [if_pos hz] at hc
                    refine ⟨env4, F4, ad4, rd, env5, I4, e5, fun v H5 F5 ad5 I5 g5 r5 => ?_⟩
                    have g := (((Go.ext xt).trans g3).trans g4).trans g5
                    obtain ⟨h5, f5, n5⟩ := g.other h2 f2 n2
                    have gc := (I5.clear vs).2
                    obtain ⟨h6, f6, n6⟩ := gc.other h5 f5 n5
                    refine ⟨vacc, h5, by rw [r2.length]; exact hz, clear vs env5, F5, ad5, acc ++ [rd], vacc ++ [v], (back I5).out f5 n6, ((g2.trans g).trans gc).out hD (fun _ e => by cases e), bare_clear vs env5, ?_, f5, n6, upd_same, (r2.mono g.sub).append (.one r5), hc⟩
                    rw [clear_length]
                    have q1 := I5.len
                    have q2 := I3.len
                    omega
                  · rw [if_neg hz] at hc; cases hc
              | false =>
                rw [if_neg Bool.false_ne_true] at hc
                dsimp only
                rw [if_neg Bool.false_ne_true]
                have g := ((Go.ext xt).trans g3).trans g4
                obtain ⟨h5, f5, n5⟩ := g.other h2 f2 n2
                have gc := (I4.clear vs).2
                obtain ⟨h6, f6, n6⟩ := gc.other h5 f5 n5
                refine ⟨clear vs env4, F4, ad4, acc, vacc, back I4, (g2.trans g).trans gc, bare_clear vs env4, ?_, f5, n6, h5, r2.mono g.sub, hc⟩
                rw [clear_length]
                have q1 := I4.len
                have q2 := I3.len
                omega
      · have ei : i = ds.length := by omega
        subst ei
        rw [List.drop_length] at hc
        simp only [compL] at hc
        cases hc
        refine .inl ⟨ok.stop H2 F2 lat, ?_⟩
        have I2' : Sim κ envE σ H2 F2 ad2 := I2.slots wl.symm fun i s v e1 e2 => (wipe_some e2).1
        obtain ⟨q1, q2, q3⟩ := fin I2' g2
        refine k Dl H2 F2 ad2 q1 (g1.trans q2) ?_ f2 (fun kd q => n2 kd (q3 kd _ q)) ⟨vacc, h2, r2⟩
        cases e : H Dl with
        | none => rfl
        | some o => exact absurd hD (g1.pres Dl (by rw [e]; simp))
    · rw [if_neg hb'] at hm; cases hm
theorem eo_comp {own : List (Str × Nat)} {it : I} {p : Pat} {t : T} {m : E} (h : PE X e (tLc (tI κ it) (tG κ p) (tT κ t) (tE κ m) (own.map (·.2)))) : PE X e (tO κ (eComp it p (own.map (·.2)) t m)) :=
  pe_of h fun _ _ _ q => comp_of q
theorem comp_asg {it : I} {p : Pat} {vs : List Nat} {t : T} {m : E} {i : Nat} {st : Stmt} (h : PS X st (tAsg (tLc (tI κ it) (tG κ p) (tT κ t) (tE κ m) vs) (gName i))) : PS X st (tAsg (tO κ (eComp it p vs t m)) (gName i)) :=
  ps_of h fun _ _ _ q => comp_of q
theorem compL_list {p : Pat} {vs : List Nat} {t : T} {m : E} : ∀ {ds acc : List D} {env env' : Env} {d : D}, compL p vs t m ds acc env = some (d, env') → ∃ xs, d = .list xs
  | [], acc, env, env', d, h => by cases h; exact ⟨_, rfl⟩
  | x :: ds, acc, env, env', d, h => by
    simp only [compL] at h
    cases e1 : bindPat p x env with
    | none => rw [e1] at h; cases h
    | some env1 =>
      rw [e1, Option.bind_some] at h
      cases e2 : t env1 with
      | none => rw [e2] at h; cases h
      | some b =>
        rw [e2, Option.bind_some] at h
        split at h
        · cases e3 : m b.2 with
          | none => rw [e3] at h; cases h
          | some r =>
            rw [e3, Option.bind_some] at h
            split at h
            · exact compL_list h
            · cases h
        · exact compL_list h
theorem comp_list {it : I} {p : Pat} {vs : List Nat} {t : T} {m : E} (env : Env) (d : D) (env' : Env) (h : eComp it p vs t m env = some (d, env')) : ∃ xs, d = .list xs := by
  unfold eComp at h
  cases e1 : it env with
  | none => rw [e1] at h; cases h
  | some a =>
    rw [e1, Option.bind_some] at h
    split at h
    · cases e2 : compL p vs t m a.1 [] (clear vs a.2) with
      | none => rw [e2] at h; cases h
      | some r =>
        rw [e2] at h
        cases h
        exact compL_list (env' := r.2) (d := r.1) e2
    · cases h
theorem asg_data {it : I} {p : Pat} {vs : List Nat} {t : T} {m : E} {i : Nat} {st : Stmt} (h : PS X st (tAsg (tO κ (eComp it p vs t m)) (gName i))) : PS X st (tAsg (tE κ (eComp it p vs t m)) (gName i)) := ps_of h fun _ _ _ q => tE_of_tOL comp_list q
theorem ed_of {m : E} (h : PE X e (tO κ m)) : PE X e (tE κ m) := pe_of (pe_lock h) fun _ _ _ q => tE_of_tO q
/-! ### what is walked -/
def upTo (lo : Int) : Nat → List D
  | 0 => []
  | n + 1 => .int lo :: upTo (lo + 1) n
theorem upTo_length : ∀ (n : Nat) (lo : Int), (upTo lo n).length = n
  | 0, _ => rfl
  | n + 1, lo => by show (upTo (lo + 1) n).length + 1 = _; rw [upTo_length n]
theorem upTo_get : ∀ (n : Nat) (lo : Int) (i : Nat), i < n → (upTo lo n)[i]? = some (.int (lo + i))
  | 0, _, _, h => absurd h (Nat.not_lt_zero _)
  | n + 1, lo, 0, _ => by simp [upTo]
  | n + 1, lo, i + 1, h => by
    show (upTo (lo + 1) n)[i]? = _
    rw [upTo_get n (lo + 1) i (by omega)]
    congr 2
    omega
theorem Ext.later {env : Env} {H1 F1 H F : Hp} {ad : Nat → Addr} (l : Later env H1 F1 ad H F) : Ext H F H F := Ext.refl l.1
theorem range_ok {env : Env} {H1 F1 : Hp} {ad : Nat → Addr} (lo : Int) (n : Nat) : ItOk κ (Itr lo n) (upTo lo n) (Later env H1 F1 ad) := by
  refine ⟨fun H F _ => ?_, fun i H F hi _ => ?_, fun i H F x H' hi l y => ?_⟩
  · show n ≤ _
    rw [upTo_length]
    exact Nat.le_refl _
  · rw [upTo_length] at hi
    exact hi
  · rw [upTo_length] at hi
    obtain ⟨rfl, rfl⟩ := y
    exact ⟨F, _, upTo_get n lo i hi, Ext.later l, .int _⟩
/-- what is walked, reckoned from operands -/
def iOp (g : List D → Option (List D)) (os : List Opd) : I := fun env => (runOpds os env).bind fun a => (getAll a.2 a.1).bind fun ds => (g ds).map fun r => (r, a.2)
theorem iOp_some {g : List D → Option (List D)} {os : List Opd} {env env' : Env} {rs : List D} (h : iOp g os env = some (rs, env')) : ∃ ts ds, runOpds os env = some (ts, env') ∧ getAll env' ts = some ds ∧ g ds = some rs := by
  unfold iOp at h
  cases e1 : runOpds os env with
  | none => rw [e1] at h; cases h
  | some a =>
    rw [e1, Option.bind_some] at h
    cases e2 : getAll a.2 a.1 with
    | none => rw [e2] at h; cases h
    | some ds =>
      rw [e2, Option.bind_some] at h
      cases e3 : g ds with
      | none => rw [e3] at h; cases h
      | some d' =>
        rw [e3] at h
        cases h
        exact ⟨a.1, ds, rfl, e2, e3⟩
theorem iOp_args {g : List D → Option (List D)} {os : List Opd} {σ : L2.St} {H : Hp} {R : It → Hp → Prop} (q : tI κ (iOp g os) σ H R) :
    tOs κ os σ H fun vs H1 => ∃ F1 ad1 env1 ds rs, Sim κ env1 σ H1 F1 ad1 ∧ Paired (RepP κ H1 F1) vs ds ∧ g ds = some rs ∧ ∀ J, ItOk κ J rs (Later env1 H1 F1 ad1) → R J H1 := by
  obtain ⟨env, F, ad, rs, env', I, h, k⟩ := q
  obtain ⟨ts, ds, h1, h2, h3⟩ := iOp_some h
  exact ⟨env, F, ad, ts, env', I, h1, fun vs H1 F1 ad1 I1 g1 r1 => ⟨F1, ad1, env', ds, rs, I1, tops I1 r1 h2, h3, fun J ok => k J H1 F1 ad1 I1 g1 ok⟩⟩
theorem tOs_mono {os : List Opd} {σ : L2.St} {H : Hp} {Q Q' : List V → Hp → Prop} (q : tOs κ os σ H Q) (h : ∀ vs H', Q vs H' → Q' vs H') : tOs κ os σ H Q' := by
  obtain ⟨env, F, ad, ts, env', I, h1, k⟩ := q
  exact ⟨env, F, ad, ts, env', I, h1, fun vs H1 F1 ad1 I1 g1 r1 => h _ _ (k vs H1 F1 ad1 I1 g1 r1)⟩
/-- told by natAbs: a kernel that looks into it stops at the letter -/
def small62 (i : Int) : Bool := decide (i.natAbs < 4611686018427387904)
theorem small62_of {i : Int} (h : small62 i = true) : -(2 ^ 62) ≤ i ∧ i < 2 ^ 62 := by
  have := of_decide_eq_true h
  omega
theorem small62_ok {i : Int} (h : -(2 ^ 62) < i ∧ i < 2 ^ 62) : small62 i = true := decide_eq_true (by omega)
def rng1 : List D → Option (List D)
  | [.int j] => if small62 j = true then some (upTo 0 j.toNat) else none
  | _ => none
def rng2 : List D → Option (List D)
  | [.int i, .int j] => if small62 i = true ∧ small62 j = true then some (upTo i (j - i).toNat) else none
  | _ => none
theorem Paired.one' {α β : Type} {G : α → β → Prop} {l : List α} {b : β} (h : Paired G l [b]) : ∃ a, l = [a] ∧ G a b := by
  cases h with
  | cons r q => cases q; exact ⟨_, rfl, r⟩
theorem Paired.two' {α β : Type} {G : α → β → Prop} {l : List α} {b c : β} (h : Paired G l [b, c]) : ∃ a a', l = [a, a'] ∧ G a b ∧ G a' c := by
  cases h with
  | cons r q =>
    obtain ⟨a', rfl, r'⟩ := Paired.one' q
    exact ⟨_, _, rfl, r, r'⟩
theorem Paired.three' {α β : Type} {G : α → β → Prop} {l : List α} {b c d : β} (h : Paired G l [b, c, d]) : ∃ a a' a'', l = [a, a', a''] ∧ G a b ∧ G a' c ∧ G a'' d := by
  cases h with
  | cons r q =>
    obtain ⟨a', a'', rfl, r', r''⟩ := Paired.two' q
    exact ⟨_, _, _, rfl, r, r', r''⟩
theorem it_range1 {tg : Expr} {o : Opd} {p : Pos} (hg : Gl X "range") (hm : X.mg "range" = none) (ha : PA X [a] (tOs κ [o])) (hs : starEach [a] X.env = [(false, eval a X.env)] := by rfl) : PI X tg (.Call (.Name "range" p) [a] [] pos) (tI κ (iOp rng1 [o])) :=
  pi_of (pi_range1 hg hm ha hs) fun σ H R q => tOs_mono (iOp_args q) fun vs H1 ⟨F1, ad1, env1, ds, rs, I1, hp, hr, k⟩ => by
    unfold rng1 at hr
    split at hr
    · obtain ⟨v, rfl, r⟩ := Paired.one' hp
      obtain rfl := Rep.isInt r
      split at hr
      · rename_i hb
        cases hr
        exact ⟨_, rfl, (small62_of hb).1, (small62_of hb).2, k _ (range_ok 0 _)⟩
      · cases hr
    · cases hr
theorem it_range2 {tg : Expr} {os : List Opd} {p : Pos} (hg : Gl X "range") (hm : X.mg "range" = none) (ha : PA X [a, b] (tOs κ os)) (hs : starEach [a, b] X.env = [(false, eval a X.env), (false, eval b X.env)] := by rfl) (hs2 : starEach [b] X.env = [(false, eval b X.env)] := by rfl) :
    PI X tg (.Call (.Name "range" p) [a, b] [] pos) (tI κ (iOp rng2 os)) :=
  pi_of (pi_range2 hg hm ha hs hs2) fun σ H R q => tOs_mono (iOp_args q) fun vs H1 ⟨F1, ad1, env1, ds, rs, I1, hp, hr, k⟩ => by
    unfold rng2 at hr
    split at hr
    · obtain ⟨v, w, rfl, r1, r2⟩ := Paired.two' hp
      obtain rfl := Rep.isInt r1
      obtain rfl := Rep.isInt r2
      split at hr
      · rename_i hb
        cases hr
        exact ⟨_, _, rfl, ⟨(small62_of hb.1).1, (small62_of hb.1).2, (small62_of hb.2).1, (small62_of hb.2).2⟩, k _ (range_ok _ _)⟩
      · cases hr
    · cases hr
/-! data that is walked: a list, a tuple, a text -/
def charsD (s : Str) : List D := s.cps.toList.map fun c => .str ⟨#[c]⟩
def seqD : D → Option (List D)
  | .list xs => some xs
  | .tuple xs => some xs
  | .str s => some (charsD s)
  | _ => none
def iSeq (m : E) : I := fun env => (m env).bind fun a => (seqD a.1).map fun ds => (ds, a.2)
theorem list_ok {env : Env} {H1 F1 : Hp} {ad : Nat → Addr} {p : Addr} {vs : List V} {ds : List D} (h : Rd F1 p (.lst vs)) (r : Reps κ F1 vs ds) : ItOk κ (Itl κ.K p) ds (Later env H1 F1 ad) := by
  have st : ∀ {H F}, Later env H1 F1 ad H F → SqL κ.K H p vs ∧ Sub F1 F := fun {H F} l => by
    obtain ⟨s, env2, ad2, g⟩ := l
    exact ⟨.inl (s.rd (g.sub.rd h)), g.sub⟩
  refine ⟨fun H F l => ⟨vs, (st l).1, by rw [r.length]; exact Nat.le_refl _⟩, fun i H F hi l => ?_, fun i H F x H' hi l y => ?_⟩
  · have hv : i < vs.length := by rw [r.length]; exact hi
    exact ⟨vs, vs[i], (st l).1, by simp [hv]⟩
  · obtain ⟨rfl, y⟩ := y
    have e := y vs (st l).1
    obtain ⟨d, hd, rd⟩ := r.getV e
    exact ⟨F, d, hd, Ext.later l, rd.mono (st l).2⟩
theorem tup_ok {env : Env} {H1 F1 : Hp} {ad : Nat → Addr} {p : Addr} {vs : List V} {ds : List D} (h : TupAt κ F1 p vs) (r : Reps κ F1 vs ds) : ItOk κ (Itt κ.K p) ds (Later env H1 F1 ad) := by
  have st : ∀ {H F}, Later env H1 F1 ad H F → SqT κ.K H p vs ∧ Sub F1 F := fun {H F} l => by
    obtain ⟨s, env2, ad2, g⟩ := l
    exact ⟨(s.tupAt (g.sub.tupAt h)).sqT, g.sub⟩
  refine ⟨fun H F l => ⟨vs, (st l).1, by rw [r.length]; exact Nat.le_refl _⟩, fun i H F hi l => ?_, fun i H F x H' hi l y => ?_⟩
  · have hv : i < vs.length := by rw [r.length]; exact hi
    exact ⟨vs, vs[i], (st l).1, by simp [hv]⟩
  · obtain ⟨rfl, y⟩ := y
    have e := y vs (st l).1
    obtain ⟨d, hd, rd⟩ := r.getV e
    exact ⟨F, d, hd, Ext.later l, rd.mono (st l).2⟩
theorem str_ok {env : Env} {H1 F1 : Hp} {ad : Nat → Addr} {s : Str} : ItOk κ (Its s) (charsD s) (Later env H1 F1 ad) := by
  have ln : (charsD s).length = s.cps.size := by simp [charsD]
  refine ⟨fun H F l => by show s.cps.size ≤ _; rw [ln]; exact Nat.le_refl _, fun i H F hi l => by rw [ln] at hi; exact hi, fun i H F x H' hi l y => ?_⟩
  obtain ⟨rfl, c, hc, rfl⟩ := y
  refine ⟨F, .str ⟨#[c]⟩, ?_, Ext.later l, .str _⟩
  have : s.cps.toList[i]? = some c := by rw [Array.getElem?_toList]; exact hc
  unfold charsD
  rw [List.getElem?_map, this]
  rfl
theorem it_seq {tg : Expr} {m : E} (hκ : κ.K = X.K) (h : PE X e (tE κ m)) : PI X tg e (tI κ (iSeq m)) :=
  pi_of (pi_or (pi_list h) (pi_or (pi_tup h) (pi_str h))) fun σ H R q => by
    obtain ⟨env, F, ad, rs, env', I, hm, k⟩ := q
    unfold iSeq at hm
    cases e1 : m env with
    | none => rw [e1] at hm; cases hm
    | some r =>
      obtain ⟨d, env1⟩ := r
      rw [e1, Option.bind_some] at hm
      cases d with
      | list xs =>
        cases hm
        refine .inl ⟨env, F, ad, _, _, I, e1, fun v H1 F1 ad1 I1 g1 r1 => ?_⟩
        obtain ⟨p, vs, rfl, h1, h2⟩ := r1.isLst
        exact ⟨p, rfl, ⟨vs, .inl (I1.sub.rd h1)⟩, hκ ▸ k _ H1 F1 ad1 I1 g1 (list_ok h1 h2)⟩
      | tuple xs =>
        cases hm
        refine .inr (.inl ⟨env, F, ad, _, _, I, e1, fun v H1 F1 ad1 I1 g1 r1 => ?_⟩)
        obtain ⟨p, vs, rfl, h1, h2⟩ := r1.isTup
        exact ⟨p, rfl, ⟨vs, hκ ▸ (I1.sub.tupAt h1).sqT⟩, hκ ▸ k _ H1 F1 ad1 I1 g1 (tup_ok h1 h2)⟩
      | str s =>
        cases hm
        refine .inr (.inr ⟨env, F, ad, _, _, I, e1, fun v H1 F1 ad1 I1 g1 r1 => ?_⟩)
        exact ⟨s, r1.isStr, k _ H1 F1 ad1 I1 g1 str_ok⟩
      | none => cases hm
      | bool b => cases hm
      | int i => cases hm
      | dict kvs => cases hm
/-- enumerate(a list) -/
def enumD : Nat → List D → List D
  | _, [] => []
  | n, d :: ds => .tuple [.int (n : Int), d] :: enumD (n + 1) ds
theorem enumD_get : ∀ (ds : List D) (n i : Nat) (d : D), ds[i]? = some d → (enumD n ds)[i]? = some (.tuple [.int ((n + i : Nat) : Int), d])
  | [], _, _, _, h => by simp at h
  | x :: ds, n, 0, d, h => by
    simp at h
    subst h
    simp [enumD]
  | x :: ds, n, i + 1, d, h => by
    show (enumD (n + 1) ds)[i]? = _
    rw [enumD_get ds (n + 1) i d (by simpa using h), Nat.add_right_comm, Nat.add_assoc]
theorem enumD_length : ∀ (ds : List D) (n : Nat), (enumD n ds).length = ds.length
  | [], _ => rfl
  | _ :: ds, n => by show (enumD (n + 1) ds).length + 1 = _; rw [enumD_length ds]; rfl
def enm : List D → Option (List D)
  | [.list xs] => some (enumD 0 xs)
  | _ => none
theorem enum_ok {env : Env} {H1 F1 : Hp} {ad : Nat → Addr} {p : Addr} {vs : List V} {ds : List D} (h : SqL κ.K H1 p vs) (st : ∀ H F, Later env H1 F1 ad H F → SqL κ.K H p vs) (r : Reps κ F1 vs ds) : ItOk κ (Ite κ.K p) (enumD 0 ds) (Later env H1 F1 ad) := by
  have w := walk_enum (K := κ.K) (a := p) (xs := vs)
  have ln := enumD_length ds 0
  have lv := r.length
  refine ⟨fun H F l => ?_, fun i H F hi l => w.goes i H (by omega) (st H F l), fun i H F x H' hi l y => ?_⟩
  · rw [ln, ← lv]; exact w.stops H (st H F l)
  · obtain ⟨T, v1, v2, rfl, nT, rfl, e1, e2⟩ := w.yields i H x H' (by omega) (st H F l) y
    obtain ⟨d, hd, rd⟩ := r.getV e2
    have e1' : V.int (i : Nat) = v1 := Option.some.inj e1
    subst e1'
    obtain ⟨s, env2, ad2, g⟩ := id l
    have xt := Ext.laid (o := HO.tup [.int (i : Nat), v2]) s nT
    refine ⟨upd F T (.tup [.int (i : Nat), v2]), _, enumD_get ds 0 i d hd, xt.1.data nT xt.2 upd_same, .tup (.inl upd_same) (.two ?_ (rd.mono ?_))⟩
    · rw [Nat.zero_add]; exact .int _
    · exact .of_eq fun a u e => (sub_upd xt.2 a u (g.mono a u e)).elim id fun ⟨_, od, z⟩ => by
        have := g.mono a u e
        by_cases za : a = T
        · subst za; rw [xt.2] at this; cases this
        · rw [upd_ne za]; exact this
def iEnm (m : E) : I := fun env => match m env with
  | some (.list xs, env') => some (enumD 0 xs, env')
  | _ => none
theorem it_enum {m : E} {p tpos : Pos} {elts : List Expr} {kk : Nat} (hκ : κ.K = X.K) (hg : Gl X "enumerate") (hm : X.mg "enumerate" = none) (ha : PE X a (tE κ m)) (hs : starEach [a] X.env = [(false, eval a X.env)] := by rfl) :
    PI X (.Tuple elts kk tpos) (.Call (.Name "enumerate" p) [a] [] pos) (tI κ (iEnm m)) :=
  pi_of (pi_enum hg hm (pa_cons ha pa_nil hs) hs) fun σ H R q => by
    obtain ⟨env, F, ad, rs, env', I, h, k⟩ := q
    unfold iEnm at h
    split at h
    · rename_i xs env1 e1
      cases h
      refine ⟨env, F, ad, _, _, I, e1, fun v H1 F1 ad1 I1 g1 r1 => ?_⟩
      obtain ⟨p, vs, rfl, h1, h2⟩ := r1.isLst
      have s0 : SqL X.K H1 p vs := .inl (I1.sub.rd h1)
      exact ⟨p, vs, rfl, s0, hκ ▸ k _ H1 F1 ad1 I1 g1 (enum_ok (vs := vs) (hκ ▸ s0) (fun H F l => by
        obtain ⟨s, env2, ad2, g⟩ := l
        exact .inl (s.rd (g.sub.rd h1))) h2)⟩
    · cases h
end DL
/-! The data layer, 5: defs and their calls. -/
namespace DL
open PySem L2 PyProof.Rows
variable {κ : Kx} {X : Cx} {e a b : Expr} {pos : Pos}
/-- what a def makes of its arguments: a value, and what stands in its arguments behind it -/
abbrev Fn := List S → Option (D × List S)
def S.isOwn : S → Bool
  | .l .own _ => true
  | .m .own _ => true
  | _ => false
theorem S.isOwn_iff {s : S} : s.isOwn = false ↔ ¬ s.is .own := by
  cases s with
  | d x => simp [S.isOwn, S.is]
  | l k xs => cases k <;> simp [S.isOwn, S.is]
  | m k xs => cases k <;> simp [S.isOwn, S.is]
/-- the promise of a def with n parameters -/
def spD (κ : Kx) (f : Fn) (n : Nat) : Sp := fun vs H Q _ => ∃ args F ad d args', vs.length = n ∧ args.length = n ∧ Sim κ (args.map some) (vs.map some) H F ad ∧ args.all (fun s => !s.isOwn) = true ∧ f args = some (d, args') ∧
  ∀ v H' F', args'.length = n → Sim κ (args'.map some) (vs.map some) H' F' ad → Go (args.map some) H F ad (args'.map some) H' F' ad → Rep κ F' v d → Q v H'
/-- the i-th argument behind the body -/
def backOne (env' : Env) (i : Nat) : S → Option S
  | .d x => some (.d x)
  | .l k _ => match env'[i]? with
    | some (some (.l k' ys)) => if k' = k then some (.l k ys) else none
    | _ => none
  | .m k _ => match env'[i]? with
    | some (some (.m k' ys)) => if k' = k then some (.m k ys) else none
    | _ => none
def backs (env' : Env) : Nat → List S → Option (List S)
  | _, [] => some []
  | i, s :: r => (backOne env' i s).bind fun s' => (backs env' (i + 1) r).map fun r' => s' :: r'
theorem backs_get {env' : Env} : ∀ {ss rs : List S} {i : Nat}, backs env' i ss = some rs → rs.length = ss.length ∧ ∀ (j : Nat) (s : S), ss[j]? = some s → ∃ s', rs[j]? = some s' ∧ backOne env' (i + j) s = some s'
  | [], rs, i, h => by
    cases h
    exact ⟨rfl, fun j s e => by simp at e⟩
  | s :: ss, rs, i, h => by
    cases e1 : backOne env' i s with
    | none => simp only [backs, e1] at h; cases h
    | some s' =>
      cases e2 : backs env' (i + 1) ss with
      | none => simp only [backs, e1, Option.bind_some, e2] at h; cases h
      | some r' =>
        simp only [backs, e1, Option.bind_some, e2] at h
        cases h
        obtain ⟨l, g⟩ := backs_get e2
        refine ⟨by simp [l], fun j t e => ?_⟩
        cases j with
        | zero => simp at e; subst e; exact ⟨s', rfl, e1⟩
        | succ j =>
          obtain ⟨t', h1, h2⟩ := g j t (by simpa using e)
          exact ⟨t', by simpa using h1, by rw [← h2]; congr 1; omega⟩
def fnD (n : Nat) (body : P) : Fn := fun args => match body (args.map some ++ List.replicate (n - args.length) none) with
  | some (.rt d, env') => (backs env' 0 args).map fun r => (d, r)
  | some (.nx, env') => (backs env' 0 args).map fun r => (.none, r)
  | _ => none
theorem map_get {ss : List S} {i : Nat} {s : S} : (ss.map some)[i]? = some (some s) ↔ ss[i]? = some s := by
  rw [List.getElem?_map]
  cases ss[i]? <;> simp
/-- the state at a def's start -/
theorem Sim.start {args : List S} {vs : List V} {H F : Hp} {ad : Nat → Addr} {n : Nat} (I : Sim κ (args.map some) (vs.map some) H F ad) : Sim κ (args.map some ++ List.replicate (n - args.length) none) (vs.map some ++ List.replicate (n - vs.length) none) H F ad := by
  have hl : args.length = vs.length := by have := I.len; simpa using this
  have sub : ∀ (i : Nat) (s : S), (args.map some ++ List.replicate (n - args.length) none)[i]? = some (some s) → (args.map some)[i]? = some (some s) := fun i s e => by
    by_cases hi : i < (args.map some).length
    · rw [List.getElem?_append_left hi] at e; exact e
    · rw [List.getElem?_append_right (by omega), List.getElem?_replicate] at e
      split at e <;> cases e
  have up : ∀ (i : Nat) (v : V), (vs.map some)[i]? = some (some v) → (vs.map some ++ List.replicate (n - vs.length) none)[i]? = some (some v) := fun i v e => by
    have hi : i < (vs.map some).length := (List.getElem?_eq_some_iff.mp e).1
    rw [List.getElem?_append_left hi]
    exact e
  refine ⟨by simp [hl], I.sub, fun i s e => ?_, fun i j s t e1 e2 => I.inj i j s t (sub i s e1) (sub j t e2)⟩
  have q := I.slot i s (sub i s e)
  cases s with
  | d y => obtain ⟨w, e', r'⟩ := q; exact ⟨w, up i w e', r'⟩
  | l k xs => obtain ⟨e', r'⟩ := q; exact ⟨up i _ e', r'⟩
  | m k xs => obtain ⟨e', r'⟩ := q; exact ⟨up i _ e', r'⟩
/-- a def's end -/
theorem Sim.finish {args args' : List S} {vs : List V} {H F H' F' : Hp} {ad ad' : Nat → Addr} {n : Nat} {env' : Env} {σ' : L2.St} (I0 : Sim κ (args.map some) (vs.map some) H F ad) (ho : args.all (fun s => !s.isOwn) = true)
    (I' : Sim κ env' σ' H' F' ad') (g : Go (args.map some ++ List.replicate (n - args.length) none) H F ad env' H' F' ad') (hb : backs env' 0 args = some args') :
    args'.length = args.length ∧ Sim κ (args'.map some) (vs.map some) H' F' ad ∧ Go (args.map some) H F ad (args'.map some) H' F' ad := by
  obtain ⟨hl, hg⟩ := backs_get hb
  have hlv : args.length = vs.length := by have := I0.len; simpa using this
  have nown : ∀ (i : Nat) (s : S), args[i]? = some s → ¬ s.is .own := fun i s e => by
    have q := List.all_eq_true.mp ho s (List.mem_of_getElem? e)
    exact S.isOwn_iff.mp (by simpa using q)
  have up : ∀ (i : Nat) (s : S), args[i]? = some s → (args.map some ++ List.replicate (n - args.length) none)[i]? = some (some s) := fun i s e => by
    have hi : i < (args.map some).length := by rw [List.length_map]; exact (List.getElem?_eq_some_iff.mp e).1
    rw [List.getElem?_append_left hi]
    exact map_get.mpr e
  have down : ∀ (i : Nat) (s : S), (args.map some ++ List.replicate (n - args.length) none)[i]? = some (some s) → args[i]? = some s := fun i s e => by
    by_cases hi : i < (args.map some).length
    · rw [List.getElem?_append_left hi] at e; exact map_get.mp e
    · rw [List.getElem?_append_right (by omega), List.getElem?_replicate] at e
      split at e <;> cases e
  -- each argument behind the body
  have each : ∀ (i : Nat) (t : S), args'[i]? = some t → ∃ s, args[i]? = some s ∧ s.shape = t.shape ∧ (t.obj = true → env'[i]? = some (some t) ∧ ad' i = ad i ∧ (t.is .ro → s = t)) ∧ (t.obj = false → t = s) := fun i t e => by
    have hi : i < args.length := by rw [← hl]; exact (List.getElem?_eq_some_iff.mp e).1
    obtain ⟨t', h1, h2⟩ := hg i args[i] (List.getElem?_eq_getElem hi)
    rw [h1] at e
    cases e
    rw [Nat.zero_add] at h2
    have ea : args[i]? = some args[i] := List.getElem?_eq_getElem hi
    have no := nown i _ ea
    refine ⟨args[i], ea, ?_⟩
    generalize args[i] = s at *
    cases s with
    | d x => simp only [backOne] at h2; cases h2; exact ⟨rfl, fun h => (by cases h), fun _ => rfl⟩
    | l k xs =>
      simp only [backOne] at h2
      split at h2
      · rename_i k' ys e'
        split at h2
        · rename_i hk
          subst hk
          cases h2
          refine ⟨rfl, fun _ => ⟨e', ?_⟩, fun h => (by cases h)⟩
          have hk : k' = .rw ∨ k' = .ro := by cases k' <;> simp_all [S.is]
          obtain ⟨s0, q1, q2, q3, q4⟩ := g.brw i _ e' (by rcases hk with rfl | rfl; exact .inl rfl; exact .inr rfl)
          have := down i s0 q1
          rw [ea] at this
          cases this
          exact ⟨q3, q4⟩
        · cases h2
      · cases h2
    | m k xs =>
      simp only [backOne] at h2
      split at h2
      · rename_i k' ys e'
        split at h2
        · rename_i hk
          subst hk
          cases h2
          refine ⟨rfl, fun _ => ⟨e', ?_⟩, fun h => (by cases h)⟩
          have hk : k' = .rw ∨ k' = .ro := by cases k' <;> simp_all [S.is]
          obtain ⟨s0, q1, q2, q3, q4⟩ := g.brw i _ e' (by rcases hk with rfl | rfl; exact .inl rfl; exact .inr rfl)
          have := down i s0 q1
          rw [ea] at this
          cases this
          exact ⟨q3, q4⟩
        · cases h2
      · cases h2
  have atU : ∀ k x, At k (args.map some) ad x → At k (args.map some ++ List.replicate (n - args.length) none) ad x := fun k x ⟨i, s, e, hk, ea⟩ => ⟨i, s, up i s (map_get.mp e), hk, ea⟩
  have atD : ∀ k x, At k (args.map some ++ List.replicate (n - args.length) none) ad x → At k (args.map some) ad x := fun k x ⟨i, s, e, hk, ea⟩ => ⟨i, s, map_get.mpr (down i s e), hk, ea⟩
  refine ⟨hl, ⟨by simp [hl, hlv], I'.sub, fun i t e => ?_, fun i j s t e1 e2 o1 o2 q => ?_⟩, ⟨fun x o e n1 n2 => g.keep x o e (fun q => n1 (atD _ x q)) fun q => n2 (atD _ x q), g.pres, g.mono, fun x e => ?_, g.tupb, fun x q => ?_, fun i t e hk => ?_⟩⟩
  · obtain ⟨s, es, sh, h1, h2⟩ := each i t (map_get.mp e)
    have q0 := I0.slot i s (map_get.mpr es)
    cases hob : t.obj with
    | false =>
      obtain rfl := h2 hob
      cases t with
      | d y => obtain ⟨w, e', r'⟩ := q0; exact ⟨w, e', r'.mono g.sub⟩
      | l k xs => cases hob
      | m k xs => cases hob
    | true =>
      obtain ⟨e', ead, _⟩ := h1 hob
      have q1 := I'.slot i t e'
      rw [ead] at q1
      cases t with
      | d y => cases hob
      | l k xs =>
        obtain ⟨z, hf, r'⟩ := q1
        cases s with
        | d y => cases sh
        | m k' ys => simp [S.shape] at sh
        | l k' ys => exact ⟨q0.1, hf, r'⟩
      | m k xs =>
        obtain ⟨z, hf, r'⟩ := q1
        cases s with
        | d y => cases sh
        | l k' ys => simp [S.shape] at sh
        | m k' ys => exact ⟨q0.1, hf, r'⟩
  · obtain ⟨s0, es, sh, _⟩ := each i s (map_get.mp e1)
    obtain ⟨t0, et, sh', _⟩ := each j t (map_get.mp e2)
    have oo : ∀ {x y : S}, x.shape = y.shape → y.obj = true → x.obj = true := fun {x y} h h' => by cases x <;> cases y <;> simp_all [S.shape, S.obj]
    exact I0.inj i j s0 t0 (map_get.mpr es) (map_get.mpr et) (oo sh o1) (oo sh' o2) q
  · rcases g.new x e with q | q | q | q
    · exact .inl q
    · exact .inr (.inl q)
    · exact .inr (.inr (.inl (atD _ x q)))
    · exact .inr (.inr (.inr q))
  · obtain ⟨i, t, e, hk, ea⟩ := q
    obtain ⟨s, es, sh, _⟩ := each i t (map_get.mp e)
    exact absurd ((S.shape_rw sh .own).mpr hk) (nown i s es)
  · obtain ⟨s, es, sh, h1, h2⟩ := each i t (map_get.mp e)
    have hob : t.obj = true := by cases t <;> first | rfl | (rcases hk with hk | hk <;> exact False.elim hk)
    exact ⟨s, map_get.mpr es, sh, rfl, (h1 hob).2.2⟩
/-- what a module's name stands for: a def that keeps its promise -/
structure Gbl (κ : Kx) (pr : Program) (w : World) (mg : Str → Option Value) (base : Heap) (x : Str) (ps : List Str) (k : Nat) (f : Fn) : Prop where
  ex : ∃ (a : Addr) (fd : FuncData), mg x = some (.ref a) ∧ PySem.W.keepIn κ.K (.ref a) = true ∧ Binds κ.K fd ps [] ∧ FnOk pr w κ.K mg base CX0 k a fd ps (spD κ f ps.length)
theorem Gbl.mono {pr : Program} {w : World} {mg : Str → Option Value} {base : Heap} {x : Str} {ps : List Str} {j k : Nat} {f : Fn} (G : Gbl κ pr w mg base x ps j f) (h : j ≤ k) : Gbl κ pr w mg base x ps k f := by
  obtain ⟨a, fd, h1, h2, h3, h4⟩ := G.ex
  exact ⟨a, fd, h1, h2, h3, h4.mono h⟩
/-- a def of the text keeps its promise -/
theorem fn_ok {pr : Program} {w : World} {mg : Str → Option Value} {base : Heap} {x : Str} {st : Stmt} {fa : Addr} {fd : FuncData} {N ps : List Str} {k : Nat} {m : P} (Fu : L2.Fun κ.K x x st fa fd) (S : FnScope N ps (defScope st))
    (hbody : ∀ (cdv : Value) (A : Around) (outer : List PySem.Env) (s : Shared) (H : Hp) (E : XK), Room k (A.deeper (envOfC x (defScope st) s.heap.objs.size fa cdv)) →
      PSs (cxOf CX0 pr w κ.K mg base N x (defScope st) fa cdv A outer s H E).nox (defBody st) (tS κ m)) :
    FnOk pr w κ.K mg base CX0 (k + 1) fa fd ps (spD κ (fnD N.length m) ps.length) := by
  refine Fu.ok S (fun vs H Q E h => ?_) (fun cdv A outer s H vs Q E hr h => ⟨_, hbody cdv A outer s H E hr, ?_⟩)
  · obtain ⟨args, F, ad, d, args', h1, _⟩ := h
    exact h1
  · obtain ⟨args, F, ad, d, args', h1, h2, I0, ho, hf, k⟩ := h
    unfold fnD at hf
    split at hf
    · rename_i d' env' e1
      cases e2 : backs env' 0 args with
      | none => rw [e2] at hf; cases hf
      | some r =>
        rw [e2] at hf
        cases hf
        refine ⟨_, F, ad, .rt d, env', I0.start, e1, fun σ' H' F' ad' I' g v r => ?_⟩
        obtain ⟨l, J, gg⟩ := I0.finish ho I' g e2
        exact k v H' F' (l.trans h2) J gg r
    · rename_i env' e1
      cases e2 : backs env' 0 args with
      | none => rw [e2] at hf; cases hf
      | some r =>
        rw [e2] at hf
        cases hf
        refine ⟨_, F, ad, .nx, env', I0.start, e1, fun σ' H' F' ad' I' g => ?_⟩
        obtain ⟨l, J, gg⟩ := I0.finish ho I' g e2
        exact k .non H' F' (l.trans h2) J gg .non
    · cases hf
/-! ### a call -/
def S.lend : S → S
  | .l .own xs => .l .rw xs
  | .m .own xs => .m .rw xs
  | s => s
def Itm.arg (env : Env) : Itm → Option S
  | .d x => some (.d x)
  | .i j => (env[j]?.bind id).map S.lend
def argAll (env : Env) : List Itm → Option (List S)
  | [] => some []
  | t :: r => (t.arg env).bind fun d => (argAll env r).map fun ds => d :: ds
/-- s as it was, with what stands in it now -/
def S.back : S → S → Option S
  | .l k _, .l _ ys => some (.l k ys)
  | .m k _, .m _ ys => some (.m k ys)
  | .d x, _ => some (.d x)
  | _, _ => none
def giveBack : List Itm → List S → Env → Option Env
  | [], [], env => some env
  | .d _ :: ts, _ :: ss, env => giveBack ts ss env
  | .i j :: ts, s :: ss, env => (env[j]?.bind id).bind fun s0 => (s0.back s).bind fun s1 => giveBack ts ss (env.set j (some s1))
  | _, _, _ => none
/-- no slot's object is handed in twice -/
def apart (env : Env) : List Itm → Bool
  | [] => true
  | .d _ :: ts => apart env ts
  | .i j :: ts => (match env[j]? with
    | some (some (.d _)) => true
    | _ => ts.all fun t => match t with
      | .i j' => decide (j' ≠ j)
      | .d _ => true) && apart env ts
def eCall (f : Fn) (os : List Opd) : E := fun env => (runOpds os env).bind fun a => if apart a.2 a.1 = true then (argAll a.2 a.1).bind fun args => (f args).bind fun r => (giveBack a.1 r.2 a.2).map fun env' => (r.1, env') else none
theorem eCall_some {f : Fn} {os : List Opd} {env env' : Env} {d : D} (h : eCall f os env = some (d, env')) :
    ∃ ts env1 args args', runOpds os env = some (ts, env1) ∧ apart env1 ts = true ∧ argAll env1 ts = some args ∧ f args = some (d, args') ∧ giveBack ts args' env1 = some env' := by
  unfold eCall at h
  cases e1 : runOpds os env with
  | none => rw [e1] at h; cases h
  | some a =>
    obtain ⟨ts, env1⟩ := a
    rw [e1, Option.bind_some] at h
    by_cases hap : apart env1 ts = true
    · rw [if_pos hap] at h
      cases e2 : argAll env1 ts with
      | none => rw [e2] at h; cases h
      | some args =>
        rw [e2, Option.bind_some] at h
        cases e3 : f args with
        | none => rw [e3] at h; cases h
        | some r =>
          obtain ⟨d', args'⟩ := r
          rw [e3, Option.bind_some] at h
          cases e4 : giveBack ts args' env1 with
          | none => rw [e4] at h; cases h
          | some en =>
            rw [e4] at h
            cases h
            exact ⟨ts, env1, args, args', rfl, hap, e2, e3, e4⟩
    · rw [if_neg hap] at h; cases h
theorem argAll_get {env : Env} : ∀ {ts : List Itm} {args : List S}, argAll env ts = some args → args.length = ts.length ∧ ∀ (i : Nat) (s : S), args[i]? = some s → ∃ t, ts[i]? = some t ∧ t.arg env = some s
  | [], args, h => by
    cases h
    exact ⟨rfl, fun i s e => by simp at e⟩
  | t :: ts, args, h => by
    cases e1 : t.arg env with
    | none => simp only [argAll, e1] at h; cases h
    | some s' =>
      cases e2 : argAll env ts with
      | none => simp only [argAll, e1, Option.bind_some, e2] at h; cases h
      | some r' =>
        simp only [argAll, e1, Option.bind_some, e2] at h
        cases h
        obtain ⟨l, g⟩ := argAll_get e2
        refine ⟨by simp [l], fun i s e => ?_⟩
        cases i with
        | zero => simp at e; subst e; exact ⟨t, rfl, e1⟩
        | succ i =>
          obtain ⟨t', h1, h2⟩ := g i s (by simpa using e)
          exact ⟨t', by simpa using h1, h2⟩
/-- slot j is handed in at place p -/
def Hand (ts : List Itm) (p j : Nat) : Prop := ts[p]? = some (.i j)
theorem apart_inj {env : Env} : ∀ {ts : List Itm}, apart env ts = true → ∀ (p q j : Nat) (s : S), Hand ts p j → Hand ts q j → env[j]? = some (some s) → s.obj = true → p = q
  | [], _, p, q, j, s, h, _, _, _ => by simp [Hand] at h
  | .d x :: ts, h, p, q, j, s, h1, h2, e, o => by
    simp only [apart] at h
    cases p with
    | zero => simp [Hand] at h1
    | succ p =>
      cases q with
      | zero => simp [Hand] at h2
      | succ q => rw [apart_inj h p q j s (by simpa [Hand] using h1) (by simpa [Hand] using h2) e o]
  | .i k :: ts, h, p, q, j, s, h1, h2, e, o => by
    simp only [apart, Bool.and_eq_true] at h
    have no : ∀ q', Hand ts q' j → k = j → False := fun q' hq hk => by
      subst hk
      have h3 := h.1
      rw [e] at h3
      have all : (ts.all fun t => match t with
          | .i j' => decide (j' ≠ k)
          | .d _ => true) = true := by cases s <;> first | exact h3 | cases o
      have z := List.all_eq_true.mp all _ (List.mem_of_getElem? hq)
      simp at z
    cases p with
    | zero =>
      have ek : k = j := by simpa [Hand] using h1
      cases q with
      | zero => rfl
      | succ q => exact (no q (by simpa [Hand] using h2) ek).elim
    | succ p =>
      cases q with
      | zero =>
        have ek : k = j := by simpa [Hand] using h2
        exact (no p (by simpa [Hand] using h1) ek).elim
      | succ q => rw [apart_inj h.2 p q j s (by simpa [Hand] using h1) (by simpa [Hand] using h2) e o]
/-- what a slot holds behind the call -/
theorem giveBack_get : ∀ {ts : List Itm} {ss : List S} {env env' : Env}, giveBack ts ss env = some env' → ts.length = ss.length ∧ env'.length = env.length ∧ ∀ (j : Nat) (s' : S), env'[j]? = some (some s') →
    ∃ s, env[j]? = some (some s) ∧ s.shape = s'.shape ∧ ((s' = s ∧ ((∀ p, ¬ Hand ts p j) ∨ s.obj = false)) ∨ ∃ p r, Hand ts p j ∧ ss[p]? = some r ∧ s.back r = some s')
  | [], [], env, env', h => by
    cases h
    exact ⟨rfl, rfl, fun j s' e => ⟨s', e, rfl, .inl ⟨rfl, .inl fun p q => by simp [Hand] at q⟩⟩⟩
  | [], _ :: _, _, _, h => by simp only [giveBack] at h; cases h
  | .d x :: ts, [], _, _, h => by simp only [giveBack] at h; cases h
  | .i j :: ts, [], _, _, h => by simp only [giveBack] at h; cases h
  | .d x :: ts, r :: ss, env, env', h => by
    simp only [giveBack] at h
    obtain ⟨l, l2, g⟩ := giveBack_get h
    refine ⟨by simp [l], l2, fun j s' e => ?_⟩
    obtain ⟨s, e0, sh, g2⟩ := g j s' e
    refine ⟨s, e0, sh, ?_⟩
    rcases g2 with ⟨e1, n⟩ | ⟨p, r', h1, h2, h3⟩
    · refine .inl ⟨e1, n.imp (fun n p q => ?_) id⟩
      cases p with
      | zero => simp [Hand] at q
      | succ p => exact n p (by simpa [Hand] using q)
    · exact .inr ⟨p + 1, r', by simpa [Hand] using h1, by simpa using h2, h3⟩
  | .i k :: ts, r :: ss, env, env', h => by
    simp only [giveBack] at h
    cases e0 : env[k]? with
    | none => rw [e0] at h; cases h
    | some o =>
      cases o with
      | none => rw [e0] at h; cases h
      | some s0 =>
        rw [e0] at h
        simp only [Option.bind_some, id] at h
        cases eb : s0.back r with
        | none => rw [eb] at h; cases h
        | some s1 =>
          rw [eb, Option.bind_some] at h
          obtain ⟨l, l2, g⟩ := giveBack_get h
          have sh1 : s0.shape = s1.shape := by
            cases s0 <;> cases r <;> simp only [S.back] at eb <;> cases eb <;> rfl
          have hk : k < env.length := (List.getElem?_eq_some_iff.mp e0).1
          refine ⟨by simp [l], by rw [l2, List.length_set], fun j s' e => ?_⟩
          obtain ⟨s, e1, sh, g2⟩ := g j s' e
          rw [getElem?_set'] at e1
          by_cases z : k = j
          · subst z
            rw [if_pos rfl, if_pos hk] at e1
            cases e1
            refine ⟨s0, e0, sh1.trans sh, ?_⟩
            rcases g2 with ⟨e1, n⟩ | ⟨p, r', h1, h2, h3⟩
            · subst e1
              exact .inr ⟨0, r, by simp [Hand], rfl, eb⟩
            · refine .inr ⟨p + 1, r', by simpa [Hand] using h1, by simpa using h2, ?_⟩
              cases s0 <;> cases r <;> simp only [S.back] at eb <;> cases eb <;> cases r' <;> simp only [S.back] at h3 ⊢ <;> exact h3
          · rw [if_neg z] at e1
            refine ⟨s, e1, sh, ?_⟩
            rcases g2 with ⟨e2, n⟩ | ⟨p, r', h1, h2, h3⟩
            · refine .inl ⟨e2, n.imp (fun n p q => ?_) id⟩
              cases p with
              | zero => exact z (by simpa [Hand] using q)
              | succ p => exact n p (by simpa [Hand] using q)
            · exact .inr ⟨p + 1, r', by simpa [Hand] using h1, by simpa using h2, h3⟩
theorem paired_at {α β : Type} {G : α → β → Prop} : ∀ {l : List α} {r : List β}, Paired G l r → l.length = r.length ∧ ∀ (i : Nat) (b : β), r[i]? = some b → ∃ a, l[i]? = some a ∧ G a b
  | _, _, .nil => ⟨rfl, fun i b e => by simp at e⟩
  | _, _, .cons h q => by
    obtain ⟨l, g⟩ := paired_at q
    refine ⟨by simp [l], fun i b e => ?_⟩
    cases i with
    | zero => simp at e; subst e; exact ⟨_, rfl, h⟩
    | succ i =>
      obtain ⟨a, h1, h2⟩ := g i b (by simpa using e)
      exact ⟨a, by simpa using h1, h2⟩
/-- where the handed objects stand -/
def adOf (ts : List Itm) (ad : Nat → Addr) : Nat → Addr := fun p => match ts[p]? with
  | some (.i j) => ad j
  | _ => 0
theorem adOf_hand {ts : List Itm} {ad : Nat → Addr} {p j : Nat} (h : Hand ts p j) : adOf ts ad p = ad j := by
  unfold adOf
  rw [show ts[p]? = some (.i j) from h]
theorem arg_i {env : Env} {j : Nat} {s : S} (h : (Itm.i j).arg env = some s) : ∃ s0, env[j]? = some (some s0) ∧ s = s0.lend := by
  simp only [Itm.arg] at h
  cases e : env[j]? with
  | none => rw [e] at h; cases h
  | some o =>
    cases o with
    | none => rw [e] at h; cases h
    | some s0 => rw [e] at h; cases h; exact ⟨s0, rfl, rfl⟩
theorem lend_obj {s : S} : s.lend.obj = s.obj := by
  cases s with
  | d x => rfl
  | l k xs => cases k <;> rfl
  | m k xs => cases k <;> rfl
theorem lend_own {s : S} : s.lend.isOwn = false := by
  cases s with
  | d x => rfl
  | l k xs => cases k <;> rfl
  | m k xs => cases k <;> rfl
/-- the callee's start -/
theorem Sim.hand {env : Env} {σ : L2.St} {H F : Hp} {ad : Nat → Addr} {ts : List Itm} {vs : List V} {args : List S} (I : Sim κ env σ H F ad) (r : Paired (ItmOk κ σ F) vs ts) (ha : argAll env ts = some args) (hap : apart env ts = true) :
    Sim κ (args.map some) (vs.map some) H F (adOf ts ad) := by
  obtain ⟨hl, hg⟩ := argAll_get ha
  obtain ⟨pl, pg⟩ := paired_at r
  refine ⟨by simp [hl, pl], I.sub, fun p s e => ?_, fun p q s t e1 e2 o1 o2 z => ?_⟩
  · obtain ⟨t, et, ea⟩ := hg p s (map_get.mp e)
    obtain ⟨v, ev, iv⟩ := pg p t et
    have ev' : (vs.map some)[p]? = some (some v) := by rw [List.getElem?_map, ev]; rfl
    cases t with
    | d x =>
      simp only [Itm.arg] at ea
      cases ea
      exact ⟨v, ev', iv⟩
    | i j =>
      obtain ⟨s0, e0, rfl⟩ := arg_i ea
      have q := I.slot j s0 e0
      have iv' : σ[j]? = some (some v) := iv
      rw [adOf_hand (show Hand ts p j from et)]
      cases s0 with
      | d x =>
        obtain ⟨w, e', rr⟩ := q
        rw [iv'] at e'
        cases e'
        exact ⟨v, ev', rr⟩
      | l k xs =>
        obtain ⟨e', hf, ws, hv, rr⟩ := q
        rw [iv'] at e'
        cases e'
        cases k <;> exact ⟨ev', hf, ws, hv, rr⟩
      | m k xs =>
        obtain ⟨e', hf, ws, hv, rr⟩ := q
        rw [iv'] at e'
        cases e'
        cases k <;> exact ⟨ev', hf, ws, hv, rr⟩
  · obtain ⟨t1, et1, ea1⟩ := hg p s (map_get.mp e1)
    obtain ⟨t2, et2, ea2⟩ := hg q t (map_get.mp e2)
    cases t1 with
    | d x => simp only [Itm.arg] at ea1; cases ea1; cases o1
    | i j1 =>
      cases t2 with
      | d x => simp only [Itm.arg] at ea2; cases ea2; cases o2
      | i j2 =>
        obtain ⟨s0, e0, rfl⟩ := arg_i ea1
        obtain ⟨t0, f0, rfl⟩ := arg_i ea2
        rw [adOf_hand (show Hand ts p j1 from et1), adOf_hand (show Hand ts q j2 from et2)] at z
        have ej := I.inj j1 j2 s0 t0 e0 f0 (by rw [← lend_obj]; exact o1) (by rw [← lend_obj]; exact o2) z
        subst ej
        exact apart_inj hap p q j1 s0 et1 et2 e0 (by rw [← lend_obj]; exact o1)
theorem hand_rw {env : Env} {ts : List Itm} {args : List S} {ad : Nat → Addr} (ha : argAll env ts = some args) {a : Addr} (h : At .rw (args.map some) (adOf ts ad) a) : ∃ p j s0, Hand ts p j ∧ env[j]? = some (some s0) ∧ (s0.is .rw ∨ s0.is .own) ∧ ad j = a := by
  obtain ⟨hl, hg⟩ := argAll_get ha
  obtain ⟨p, s, e, hk, ea⟩ := h
  obtain ⟨t, et, e1⟩ := hg p s (map_get.mp e)
  cases t with
  | d x => simp only [Itm.arg] at e1; cases e1; exact False.elim hk
  | i j =>
    obtain ⟨s0, e0, rfl⟩ := arg_i e1
    rw [adOf_hand (show Hand ts p j from et)] at ea
    refine ⟨p, j, s0, et, e0, ?_, ea⟩
    cases s0 with
    | d x => exact False.elim hk
    | l k xs => cases k <;> simp_all [S.is, S.lend]
    | m k xs => cases k <;> simp_all [S.is, S.lend]
theorem hand_own {env : Env} {ts : List Itm} {args : List S} {ad : Nat → Addr} (ha : argAll env ts = some args) {a : Addr} (h : At .own (args.map some) (adOf ts ad) a) : False := by
  obtain ⟨hl, hg⟩ := argAll_get ha
  obtain ⟨p, s, e, hk, ea⟩ := h
  obtain ⟨t, et, e1⟩ := hg p s (map_get.mp e)
  cases t with
  | d x => simp only [Itm.arg] at e1; cases e1; exact False.elim hk
  | i j =>
    obtain ⟨s0, e0, rfl⟩ := arg_i e1
    exact S.isOwn_iff.mp lend_own hk
theorem args_all {env : Env} {ts : List Itm} {args : List S} (ha : argAll env ts = some args) : args.all (fun s => !s.isOwn) = true := by
  obtain ⟨hl, hg⟩ := argAll_get ha
  refine List.all_eq_true.mpr fun s hs => ?_
  obtain ⟨p, hp⟩ := List.getElem?_of_mem hs
  obtain ⟨t, et, e1⟩ := hg p s hp
  cases t with
  | d x => simp only [Itm.arg] at e1; cases e1; rfl
  | i j =>
    obtain ⟨s0, e0, rfl⟩ := arg_i e1
    rw [lend_own]; rfl
/-- the caller goes on -/
theorem Sim.taken {env env' : Env} {σ : L2.St} {H F H' F' : Hp} {ad : Nat → Addr} {ts : List Itm} {vs : List V} {args args' : List S} (I : Sim κ env σ H F ad) (r : Paired (ItmOk κ σ F) vs ts) (ha : argAll env ts = some args)
    (hb : giveBack ts args' env = some env') (J : Sim κ (args'.map some) (vs.map some) H' F' (adOf ts ad)) (g : Go (args.map some) H F (adOf ts ad) (args'.map some) H' F' (adOf ts ad)) :
    Sim κ env' σ H' F' ad ∧ Go env H F ad env' H' F' ad := by
  obtain ⟨hl, hg⟩ := argAll_get ha
  obtain ⟨pl, pg⟩ := paired_at r
  obtain ⟨bl, bl2, bg⟩ := giveBack_get hb
  -- an object that was not handed in
  have stay : ∀ (j : Nat) (s : S), env[j]? = some (some s) → s.obj = true → (∀ p, ¬ Hand ts p j) → (∀ o, H (ad j) = some o → H' (ad j) = some o) ∧ F' (ad j) = none := fun j s e o n => by
    obtain ⟨hf, ob, hr, ht⟩ := I.objAt e o
    have nrw : ¬ At .rw (args.map some) (adOf ts ad) (ad j) := fun q => by
      obtain ⟨p, j', s0, h1, e0, h2, ea⟩ := hand_rw ha q
      have : j' = j := I.inj j' j s0 s e0 e (by rcases h2 with h2 | h2 <;> (cases s0 <;> first | rfl | exact False.elim h2)) o ea
      subst this
      exact n p h1
    refine ⟨fun ob' e' => g.keep (ad j) ob' e' nrw (fun q => hand_own ha q), ?_⟩
    cases e' : F' (ad j) with
    | none => rfl
    | some u =>
      rcases g.new (ad j) (by rw [e']; simp) with q | q | q | ⟨ws, q⟩
      · exact absurd hf q
      · rcases hr with hr | ⟨od, hr⟩ <;> rw [q] at hr <;> cases hr
      · exact (hand_own ha q).elim
      · rcases hr with hr | ⟨od, hr⟩ <;> rw [q] at hr <;> cases hr
        exact absurd rfl (ht ws)
  -- the kinds of what comes back
  have kin : ∀ (p j : Nat) (s r : S), Hand ts p j → env[j]? = some (some s) → s.obj = true → args'[p]? = some r → r.obj = true → r.shape = s.lend.shape ∧ (s.is .ro → r = s) := fun p j s r h e o er hr => by
    have nown : ¬ r.is .own := fun q => by
      rcases g.own (ad j) ⟨p, r, map_get.mpr er, q, adOf_hand h⟩ with z | z
      · exact hand_own ha z
      · obtain ⟨hf, ob, hr, ht⟩ := I.objAt e o
        rcases hr with hr | ⟨od, hr⟩ <;> rw [z] at hr <;> cases hr
    have hk : r.is .rw ∨ r.is .ro := by
      obtain ⟨k, hk⟩ := S.obj_is hr
      cases k with
      | ro => exact .inr hk
      | rw => exact .inl hk
      | own => exact absurd hk nown
    obtain ⟨s1, e1, sh, _, ro⟩ := g.brw p r (map_get.mpr er) hk
    obtain ⟨t, et, ea⟩ := hg p s1 (map_get.mp e1)
    have h' : ts[p]? = some (.i j) := h
    rw [h'] at et
    cases et
    obtain ⟨s0, e0, rfl⟩ := arg_i ea
    rw [e] at e0
    cases e0
    refine ⟨sh.symm, fun q => ?_⟩
    have hro : r.is .ro := (S.shape_rw sh .ro).mp (by cases s <;> first | exact False.elim q | (cases q; rfl))
    have := ro hro
    rw [← this]
    cases s <;> first | exact False.elim q | (cases q; rfl)
  refine ⟨⟨bl2.trans I.len, J.sub, fun j s' e => ?_, fun i j s t e1 e2 o1 o2 q => ?_⟩, ⟨fun a o e n1 n2 => g.keep a o e (fun q => ?_) (fun q => hand_own ha q), g.pres, g.mono, fun a e => ?_, g.tupb, fun a q => ?_, fun j s' e hk => ?_⟩⟩
  · obtain ⟨s, e0, sh, c⟩ := bg j s' e
    have q := I.slot j s e0
    rcases c with ⟨rfl, n⟩ | ⟨p, r, hh, er, eb⟩
    · cases s' with
      | d x => obtain ⟨w, e', rr⟩ := q; exact ⟨w, e', rr.mono g.sub⟩
      | l k xs =>
        obtain ⟨e', hf, ws, hv, rr⟩ := q
        obtain ⟨h1, h2⟩ := stay j _ e0 rfl (n.resolve_right (fun z => by cases z))
        refine ⟨e', h2, ws, ?_, rr.mono g.sub⟩
        cases k with
        | ro => rcases hv with hv | ⟨od, hv⟩; exact .inl (h1 _ hv); exact .inr ⟨od, h1 _ hv⟩
        | rw => exact h1 _ hv
        | own => exact h1 _ hv
      | m k xs =>
        obtain ⟨e', hf, ws, hv, rr⟩ := q
        obtain ⟨h1, h2⟩ := stay j _ e0 rfl (n.resolve_right (fun z => by cases z))
        refine ⟨e', h2, ws, ?_, rr.mono g.sub⟩
        cases k with
        | ro => rcases hv with hv | ⟨od, hv⟩; exact .inl (h1 _ hv); exact .inr ⟨od, h1 _ hv⟩
        | rw => exact h1 _ hv
        | own => exact h1 _ hv
    · have jq := J.slot p r (map_get.mpr er)
      rw [adOf_hand hh] at jq
      cases s with
      | d x =>
        cases eb
        obtain ⟨w, e', rr⟩ := q
        exact ⟨w, e', rr.mono g.sub⟩
      | l k xs =>
        cases r with
        | d y => cases eb
        | m k' ys => cases eb
        | l k' ys =>
          cases eb
          obtain ⟨sh', _⟩ := kin p j _ _ hh e0 rfl er rfl
          obtain ⟨_, hf, ws, hv, rr⟩ := jq
          refine ⟨q.1, hf, ws, ?_, rr⟩
          cases k <;> cases k' <;> first | exact hv | (simp [S.shape, S.lend] at sh')
      | m k xs =>
        cases r with
        | d y => cases eb
        | l k' ys => cases eb
        | m k' ys =>
          cases eb
          obtain ⟨sh', _⟩ := kin p j _ _ hh e0 rfl er rfl
          obtain ⟨_, hf, ws, hv, rr⟩ := jq
          refine ⟨q.1, hf, ws, ?_, rr⟩
          cases k <;> cases k' <;> first | exact hv | (simp [S.shape, S.lend] at sh')
  · obtain ⟨s0, f1, sh1, _⟩ := bg i s e1
    obtain ⟨t0, f2, sh2, _⟩ := bg j t e2
    have oo : ∀ {x y : S}, x.shape = y.shape → y.obj = true → x.obj = true := fun {x y} h h' => by cases x <;> cases y <;> simp_all [S.shape, S.obj]
    exact I.inj i j s0 t0 f1 f2 (oo sh1 o1) (oo sh2 o2) q
  · obtain ⟨p, j, s0, h1, e0, h2, ea⟩ := hand_rw ha q
    rcases h2 with h2 | h2
    · exact n1 ⟨j, s0, e0, h2, ea⟩
    · exact n2 ⟨j, s0, e0, h2, ea⟩
  · rcases g.new a e with q | q | q | q
    · exact .inl q
    · exact .inr (.inl q)
    · exact (hand_own ha q).elim
    · exact .inr (.inr (.inr q))
  · obtain ⟨j, s', e, hk, ea⟩ := q
    obtain ⟨s, e0, sh, _⟩ := bg j s' e
    exact .inl ⟨j, s, e0, (S.shape_rw sh .own).mpr hk, ea⟩
  · obtain ⟨s, e0, sh, c⟩ := bg j s' e
    refine ⟨s, e0, sh, rfl, fun hro => ?_⟩
    rcases c with ⟨rfl, n⟩ | ⟨p, r, hh, er, eb⟩
    · rfl
    · have hs : s.is .ro := (S.shape_rw sh .ro).mpr hro
      have ho : s.obj = true := by cases s <;> first | rfl | exact False.elim hs
      have hr : r.obj = true := by cases s <;> cases r <;> first | rfl | exact False.elim hs | cases eb
      obtain ⟨_, z⟩ := kin p j s r hh e0 ho er hr
      have z := z hs
      subst z
      cases r <;> first | exact False.elim hs | (cases eb; rfl)
/-- f(e, ..) of a def that keeps its promise -/
theorem ed_call {x : Str} {ps : List Str} {k : Nat} {f : Fn} {es : List Expr} {os : List Opd} {p : Pos} (hκ : κ.K = X.K) (G : Gbl κ X.prog X.w X.mg X.base x ps k f) (hr : Room k X.A) (hg : Gl X x) (ha : PA X (e :: es) (tOs κ os)) (hlen : os.length = ps.length) (hdb : (x == ("__debug__" : Str)) = false := by decide)
    (he : starEach (e :: es) X.env = (false, eval e X.env) :: starEach es X.env := by rfl) (hpl : (backTo pos (starEach es X.env)).any (·.1) = false := by rfl) : PE X (.Call (.Name x p) (e :: es) [] pos) (tE κ (eCall f os)) := by
  obtain ⟨fa, fd, h1, h2, h3, h4⟩ := G.ex
  refine pe_of (pe_call (E := E0) (dvs := []) (ds := []) (hκ ▸ h4) hr hg h1 (hκ ▸ h2) (hκ ▸ h3) .nil pass0 ha hdb he hpl) fun σ H Q q => ?_
  obtain ⟨env, F, ad, d, env', I, hm, kk⟩ := q
  obtain ⟨ts, env1, args, args', q1, q2, q3, q4, q5⟩ := eCall_some hm
  refine ⟨env, F, ad, ts, env1, I, q1, fun vs H1 F1 ad1 I1 g1 r1 => ?_⟩
  obtain ⟨hl, _⟩ := argAll_get q3
  obtain ⟨pl, _⟩ := paired_at r1
  have tl : ts.length = os.length := by
    have gen : ∀ {os : List Opd} {en en' : Env} {ts : List Itm}, runOpds os en = some (ts, en') → ts.length = os.length := by
      intro os
      induction os with
      | nil => intro en en' ts h; cases h; rfl
      | cons o os ih =>
        intro en en' ts h
        cases e1 : runOpd o en with
        | none => simp only [runOpds, e1] at h; cases h
        | some a =>
          cases e2 : runOpds os a.2 with
          | none => simp only [runOpds, e1, Option.bind_some, e2] at h; cases h
          | some b =>
            simp only [runOpds, e1, Option.bind_some, e2] at h
            cases h
            rw [List.length_cons, List.length_cons, ih e2]
    exact gen q1
  rw [List.append_nil]
  refine ⟨args, F1, adOf ts ad1, d, args', by omega, by omega, I1.hand r1 q3 q2, args_all q3, q4, fun v H' F' hla J g r => ?_⟩
  obtain ⟨I2, g2⟩ := I1.taken r1 q3 q5 J g
  exact kk v H' F' ad1 I2 (g1.trans g2) r
end DL
/-! The data layer, 6: operations. -/
namespace DL
open PySem L2 PyProof.Rows
variable {κ : Kx} {X : Cx} {e a b : Expr} {pos : Pos}
theorem opr_or {f : Value → Value → Sem Value} {r r' : R2} (h : OpR X f r) (h' : OpR X f r') : OpR X f (fun x y H Q => r x y H Q ∨ r' x y H Q) := fun pins s σ H x y v u Q I rx ry q => by
  rcases q with q | q
  · exact h pins s σ H x y v u Q I rx ry q
  · exact h' pins s σ H x y v u Q I rx ry q
/-! ### new objects -/
theorem new_data {H F : Hp} {p : Addr} {o : HO} (hs : Sub F H) (hp : H p = none) : Ext H F (upd H p o) (upd F p o) :=
  (Ext.laid hs hp).1.data hp (Ext.laid (o := o) hs hp).2 upd_same
theorem new_sub {H F : Hp} {p : Addr} {o : HO} (hs : Sub F H) (hp : H p = none) : Sub F (upd F p o) := sub_upd (Ext.laid (o := o) hs hp).2
/-- a new tuple is handed on -/
theorem fin_tup {H F : Hp} {d : D} {Q : VK} {p : Addr} {vs : List V} {xs : List D} (hs : Sub F H) (hp : H p = none) (r : Reps κ F vs xs) (hd : d = .tuple xs)
    (k : ∀ w H' F', Ext H F H' F' → Rep κ F' w d → Q w H') : Q (.ref p) (upd H p (.tup vs)) := by
  subst hd
  exact k _ _ _ (new_data hs hp) (.tup (.inl upd_same) (r.mono (new_sub hs hp)))
theorem fin_lst {H F : Hp} {d : D} {Q : VK} {p : Addr} {vs : List V} {xs : List D} (hs : Sub F H) (hp : H p = none) (r : Reps κ F vs xs) (hd : d = .list xs)
    (k : ∀ w H' F', Ext H F H' F' → Rep κ F' w d → Q w H') : Q (.ref p) (upd H p (.lst vs)) := by
  subst hd
  exact k _ _ _ (new_data hs hp) (.lst (.of upd_same) (r.mono (new_sub hs hp)))
theorem fin_lstO {H F : Hp} {d : D} {Q : VK} {p : Addr} {vs : List V} {xs : List D} (hs : Sub F H) (hp : H p = none) (r : Reps κ F vs xs) (hd : d = .list xs)
    (k : ∀ a H' F', Ext H F H' F' → H a = none → F' a = none → TopAt κ H' F' a d → Q (.ref a) H') : Q (.ref p) (upd H p (.lst vs)) := by
  subst hd
  exact k _ _ _ (Ext.laid hs hp).1 hp (Ext.laid (o := .lst vs) hs hp).2 ⟨vs, upd_same, r⟩
/-! ### lists that are read, known to the object or not -/
theorem lst_rd {pins : List (Addr × Obj)} {σ : L2.St} {H : Hp} {s : Shared} {l : Addr} {xs : List V} (I : Inv X pins σ H s) (h : Rd H l (.lst xs)) :
    xs.length ≤ sizeLine ∧ ∃ (its : List Value) (n : Nat), Vals xs its ∧ s.heap.get? l = some { cls := .type "list", data := .seq its.toArray n } := h.ok I.hok
def rCatR : R2 := fun x y H Q => ∃ l k xs zs, x = .ref l ∧ y = .ref k ∧ Rd H l (.lst xs) ∧ Rd H k (.lst zs) ∧ xs.length + zs.length ≤ sizeLine ∧ ∀ p, H p = none → Q (.ref p) (upd H p (.lst (xs ++ zs)))
theorem op_catR : OpR X (binaryOp .Add) rCatR := by
  intro pins s σ H x y v u Q I rx ry h
  obtain ⟨l, k, xs, zs, rfl, rfl, hl, hk, hz, q⟩ := h
  cases rx
  cases ry
  obtain ⟨_, its, n, r, e⟩ := lst_rd I hl
  obtain ⟨_, its2, n2, r2, e2⟩ := lst_rd I hk
  have c1 := r.length
  have c2 := r2.length
  have both : its.toArray ++ its2.toArray = (its ++ its2).toArray := by simp
  refine PySem.P.add_list e e2 ?_ (by simp only [List.size_toArray]; omega)
  rw [both]
  have J := I.lnew (t' := s.toks) (r.append r2) (by simp only [List.length_append]; omega)
  exact ⟨.ref _, _, J, rfl, q _ I.fresh⟩
/-! ### + - * // % ** and - -/
def aAdd : D → D → Option D
  | .int i, .int j => some (.int (i + j))
  | .str i, .str j => if i.length + j.length ≤ sizeLine then some (.str (i ++ j)) else none
  | .list xs, .list ys => if xs.length + ys.length ≤ sizeLine then some (.list (xs ++ ys)) else none
  | .tuple xs, .tuple ys => if xs.isEmpty = false ∧ xs.length + ys.length ≤ sizeLine then some (.tuple (xs ++ ys)) else none
  | _, _ => none
def rStrCat : R2 := fun x y H Q => ∃ i j, x = .str i ∧ y = .str j ∧ i.length + j.length ≤ sizeLine ∧ Q (.str (i ++ j)) H
def rAddAll (K : PySem.W.Frag) : R2 := fun x y H Q => rI0 (fun i j => .int (i + j)) x y H Q ∨ (rStrCat x y H Q ∨ (rCatR x y H Q ∨ rCatT K x y H Q))
theorem op_addAll : OpR X (binaryOp .Add) (rAddAll X.K) := opr_or op_add (opr_or op_add_str (opr_or op_catR op_catT))
theorem d_add : Op2 κ (rAddAll κ.K) aAdd := by
  intro H F v u x y d Q hs rx ry hf k
  have x0 : Ext H F H F := Ext.refl hs
  cases x with
  | int i =>
    cases y with
    | int j =>
      obtain rfl := Rep.isInt rx
      obtain rfl := Rep.isInt ry
      cases hf
      exact .inl ⟨i, j, rfl, rfl, k _ _ _ x0 (.int _)⟩
    | _ => cases hf
  | str i =>
    cases y with
    | str j =>
      obtain rfl := Rep.isStr rx
      obtain rfl := Rep.isStr ry
      simp only [aAdd] at hf
      split at hf
      · rename_i hz
        cases hf
        exact .inr (.inl ⟨i, j, rfl, rfl, hz, k _ _ _ x0 (.str _)⟩)
      · cases hf
    | _ => cases hf
  | list xs =>
    cases y with
    | list ys =>
      obtain ⟨l, vs, rfl, h1, r1⟩ := rx
      obtain ⟨m, ws, rfl, h2, r2⟩ := ry
      simp only [aAdd] at hf
      split at hf
      · rename_i hz
        cases hf
        exact .inr (.inr (.inl ⟨l, m, vs, ws, rfl, rfl, h1, h2, by rw [r1.length, r2.length]; exact hz, fun p hp => fin_lst hs hp (r1.append r2) rfl k⟩))
      · cases hf
    | _ => cases hf
  | tuple xs =>
    cases y with
    | tuple ys =>
      obtain ⟨l, vs, rfl, h1, r1⟩ := rx
      obtain ⟨m, ws, rfl, h2, r2⟩ := ry
      simp only [aAdd] at hf
      split at hf
      · rename_i hz
        cases hf
        have h1s := h1.sqT
        refine .inr (.inr (.inr ⟨l, m, vs, ws, rfl, rfl, h1s, h2.sqT, fun e => ?_, by rw [r1.length, r2.length]; exact hz.2, fun e => ?_, fun _ p hp => fin_tup hs hp (r1.append r2) rfl k⟩))
        · have := r1.nil_iff.mp e
          rw [this] at hz
          cases hz.1
        · subst e
          have e2 : ys = [] := r2.nil_iff.mp rfl
          subst e2
          rcases h1 with h1 | ⟨hc, h1⟩
          · refine k (.ref l) H (upd F l (.tup vs)) ⟨fun _ _ e => e, fun a u e => ?_, fun a e => ?_, fun _ _ e => .inl e, fun a u e => ?_⟩ (.tup (.inl upd_same) ?_)
            · by_cases z : a = l
              · subst z
                rcases hs a u e with q | ⟨q, od, q2⟩
                · rw [h1] at q; cases q; exact upd_same
                · rw [h1] at q2; cases q2
              · rw [upd_ne z]; exact e
            · by_cases z : a = l
              · subst z; exact .inr (.inr ⟨vs, h1⟩)
              · rw [upd_ne z] at e; exact .inl e
            · by_cases z : a = l
              · subst z; rw [upd_same] at e; cases e; exact .inl h1
              · rw [upd_ne z] at e; exact hs a u e
            · rw [List.append_nil]
              refine r1.mono (.of_eq fun a u e => ?_)
              by_cases z : a = l
              · subst z
                rcases hs a u e with q | ⟨q, od, q2⟩
                · rw [h1] at q; cases q; exact upd_same
                · rw [h1] at q2; cases q2
              · rw [upd_ne z]; exact e
          · rw [List.append_nil] at k
            exact k (.ref l) H F x0 (.tup (.inr ⟨hc, h1⟩) r1)
      · cases hf
    | _ => cases hf
  | _ => cases hf
/-- two lists alone: a new list -/
def aCat : D → D → Option D
  | .list xs, .list ys => if xs.length + ys.length ≤ sizeLine then some (.list (xs ++ ys)) else none
  | _, _ => none
theorem o_cat : Op2o κ rCatR aCat := by
  intro H F v u x y d Q hs rx ry hf k
  cases x with
  | list xs =>
    cases y with
    | list ys =>
      obtain ⟨l, vs, rfl, h1, r1⟩ := rx
      obtain ⟨m, ws, rfl, h2, r2⟩ := ry
      simp only [aCat] at hf
      split at hf
      · rename_i hz
        cases hf
        exact ⟨l, m, vs, ws, rfl, rfl, h1, h2, by rw [r1.length, r2.length]; exact hz, fun p hp => fin_lstO hs hp (r1.append r2) rfl k⟩
      · cases hf
    | _ => cases hf
  | _ => cases hf
def aSub : D → D → Option D
  | .int i, .int j => some (.int (i - j))
  | _, _ => none
theorem d_int {C : Int → Int → Prop} {g : Int → Int → Int} {f : D → D → Option D} (hf : ∀ x y d, f x y = some d → ∃ i j, x = .int i ∧ y = .int j ∧ C i j ∧ d = .int (g i j)) : Op2 κ (rI C fun i j => .int (g i j)) f := by
  intro H F v u x y d Q hs rx ry h k
  obtain ⟨i, j, rfl, rfl, c, rfl⟩ := hf x y d h
  obtain rfl := Rep.isInt rx
  obtain rfl := Rep.isInt ry
  exact ⟨i, j, rfl, rfl, c, k _ _ _ (Ext.refl hs) (.int _)⟩
theorem op_subC : OpR X (binaryOp .Sub) (rI (fun _ _ => True) fun i j => .int (i - j)) := opI fun _ _ _ _ _ _ _ _ q => sub_int q
theorem d_sub : Op2 κ (rI (fun _ _ => True) fun i j => .int (i - j)) aSub := d_int fun x y d h => by
  cases x <;> cases y <;> simp only [aSub] at h <;> cases h
  exact ⟨_, _, rfl, rfl, trivial, rfl⟩
/-- together below a hundred million bits -/
def mulFits (i j : Int) : Bool := decide (i.natAbs.log2 + j.natAbs.log2 < 100000000)
theorem mulFits_ok {i j : Int} (h : mulFits i j = true) : IntMulOk i j := by
  have h := of_decide_eq_true h
  have b : ∀ x : Int, Builtin.Int.intBits x ≤ x.natAbs.log2 + 1 := fun x => by
    unfold Builtin.Int.intBits
    split <;> omega
  have h1 := b i
  have h2 := b j
  have e : bitsLine = 134217728 := by decide
  unfold IntMulOk
  intro z
  rw [Bool.and_eq_true] at z
  have z2 := z.2
  unfold Builtin.Int.intTooBig at z2
  have z3 := of_decide_eq_true z2
  rw [e] at z3
  omega
def aMulI : D → D → Option D
  | .int i, .int j => if mulFits i j = true then some (.int (i * j)) else none
  | _, _ => none
theorem op_mulB : OpR X (binaryOp .Mult) (rI (fun i j => mulFits i j = true) fun i j => .int (i * j)) := opI fun _ _ _ _ _ _ _ c q => mul_int q (mulFits_ok c)
theorem d_mulI : Op2 κ (rI (fun i j => mulFits i j = true) fun i j => .int (i * j)) aMulI := d_int fun x y d h => by
  cases x <;> cases y <;> simp only [aMulI] at h <;> first | cases h | (split at h <;> cases h; exact ⟨_, _, rfl, rfl, by assumption, rfl⟩)
def divFits (j : Int) : Bool := decide (j ≠ 0 ∧ j.natAbs.log2 < 9000)
def aDiv : D → D → Option D
  | .int i, .int j => if divFits j = true then some (.int (i.fdiv j)) else none
  | _, _ => none
theorem op_divB : OpR X (binaryOp .FloorDiv) (rI (fun _ j => divFits j = true) fun i j => .int (i.fdiv j)) := opI fun _ _ _ _ _ _ _ c q => floordiv_int (of_decide_eq_true c).1 q (.inl (PyProof.noPylong_of_log2 (of_decide_eq_true c).2))
theorem d_div : Op2 κ (rI (fun _ j => divFits j = true) fun i j => .int (i.fdiv j)) aDiv := d_int fun x y d h => by
  cases x <;> cases y <;> simp only [aDiv] at h <;> first | cases h | (split at h <;> cases h; exact ⟨_, _, rfl, rfl, by assumption, rfl⟩)
def aMod : D → D → Option D
  | .int i, .int j => if j = 0 then none else some (.int (i.fmod j))
  | _, _ => none
theorem op_modB : OpR X (binaryOp .Mod) (rI (fun _ j => j ≠ 0) fun i j => .int (i.fmod j)) := opI fun _ _ _ _ _ _ _ hc q => mod_int' hc q
theorem d_mod : Op2 κ (rI (fun _ j => j ≠ 0) fun i j => .int (i.fmod j)) aMod := d_int fun x y d h => by
  cases x <;> cases y <;> simp only [aMod] at h <;> first | cases h | (split at h <;> cases h; exact ⟨_, _, rfl, rfl, by assumption, rfl⟩)
def aPow : D → D → Option D
  | .int i, .int j => if 0 ≤ j ∧ j ≤ 1000000 ∧ i.natAbs < 2 ^ 64 then some (.int (i ^ j.toNat)) else none
  | _, _ => none
theorem d_pow : Op2 κ (rI CPow fun i j => .int (i ^ j.toNat)) aPow := d_int fun x y d h => by
  cases x <;> cases y <;> simp only [aPow] at h <;> first | cases h | (split at h <;> cases h; exact ⟨_, _, rfl, rfl, by assumption, rfl⟩)
def aNeg : D → Option D
  | .int i => some (.int (-i))
  | _ => none
theorem d_neg : Op1 κ (rU fun i => .int (-i)) aNeg := by
  intro H F v x d Q hs rx h k
  cases x <;> simp only [aNeg] at h <;> cases h
  obtain rfl := Rep.isInt rx
  exact ⟨_, rfl, k _ _ _ (Ext.refl hs) (.int _)⟩
/-! ### comparisons -/
theorem d_cmpI {g : Int → Int → Bool} {f : D → D → Option D} (hf : ∀ x y d, f x y = some d → ∃ i j, x = .int i ∧ y = .int j ∧ d = .bool (g i j)) : Op2 κ (rI0 fun i j => .bl (g i j)) f := by
  intro H F v u x y d Q hs rx ry h k
  obtain ⟨i, j, rfl, rfl, rfl⟩ := hf x y d h
  obtain rfl := Rep.isInt rx
  obtain rfl := Rep.isInt ry
  exact ⟨i, j, rfl, rfl, k _ _ _ (Ext.refl hs) (.bl _)⟩
def aLtI : D → D → Option D
  | .int i, .int j => some (.bool (decide (i < j)))
  | _, _ => none
def aLeI : D → D → Option D
  | .int i, .int j => some (.bool (decide (i ≤ j)))
  | _, _ => none
def aGtI : D → D → Option D
  | .int i, .int j => some (.bool (decide (j < i)))
  | _, _ => none
def aGeI : D → D → Option D
  | .int i, .int j => some (.bool (decide (j ≤ i)))
  | _, _ => none
theorem d_ltI : Op2 κ (rI0 fun i j => .bl (decide (i < j))) aLtI := d_cmpI fun x y d h => by
  cases x <;> cases y <;> simp only [aLtI] at h <;> cases h; exact ⟨_, _, rfl, rfl, rfl⟩
theorem d_leI : Op2 κ (rI0 fun i j => .bl (decide (i ≤ j))) aLeI := d_cmpI fun x y d h => by
  cases x <;> cases y <;> simp only [aLeI] at h <;> cases h; exact ⟨_, _, rfl, rfl, rfl⟩
theorem d_gtI : Op2 κ (rI0 fun i j => .bl (decide (j < i))) aGtI := d_cmpI fun x y d h => by
  cases x <;> cases y <;> simp only [aGtI] at h <;> cases h; exact ⟨_, _, rfl, rfl, rfl⟩
theorem d_geI : Op2 κ (rI0 fun i j => .bl (decide (j ≤ i))) aGeI := d_cmpI fun x y d h => by
  cases x <;> cases y <;> simp only [aGeI] at h <;> cases h; exact ⟨_, _, rfl, rfl, rfl⟩
/-! == and != of data at any depth -/
mutual
theorem Rep.dp {H : Hp} : ∀ (d : D) (v : V), Rep κ H v d → d.canLay0 = true → Dp κ.K H v d
  | .none, _, .non, _ => .non
  | .bool _, _, .bl _, _ => .bl _
  | .int _, _, .int _, _ => .int _
  | .str _, _, .str _, _ => .str _
  | .tuple xs, _, .tup h r, c => .tup h.sqT (Reps.dp xs _ r (by simpa only [PyData.canLay0] using c))
  | .list xs, _, .lst h r, c => .lst (.inl h) (Reps.dp xs _ r (by simpa only [PyData.canLay0] using c))
  | .dict _, _, .dK _ _, c => by simp only [PyData.canLay0] at c; cases c
  | .dict _, _, .dT _ _, c => by simp only [PyData.canLay0] at c; cases c
  | .dict _, _, .scr _ _, c => by simp only [PyData.canLay0] at c; cases c
theorem Reps.dp {H : Hp} : ∀ (ds : List D) (vs : List V), Reps κ H vs ds → PyData.canLayAll0 ds = true → DpAll κ.K H vs ds
  | [], _, .nil, _ => .nil
  | d :: ds, _, .cons r q, c => by
    simp only [PyData.canLayAll0, Bool.and_eq_true] at c
    exact .cons (Rep.dp d _ r c.1) (Reps.dp ds _ q c.2)
end
def aEq (x y : D) : Option D := if SeqAt.shaped x = true ∧ SeqAt.shaped y = true then some (.bool (PyData.eqv x y)) else none
def aNe (x y : D) : Option D := if SeqAt.shaped x = true ∧ SeqAt.shaped y = true then some (.bool (!PyData.eqv x y)) else none
theorem d_eq : Op2 κ (rEqD κ.K) aEq := by
  intro H F v u x y d Q hs rx ry h k
  unfold aEq at h
  split at h
  · rename_i c
    cases h
    exact ⟨x, y, Rep.dp x v (rx.rep hs (SeqAt.canLay_of_shaped c.1)) (SeqAt.canLay_of_shaped c.1), Rep.dp y u (ry.rep hs (SeqAt.canLay_of_shaped c.2)) (SeqAt.canLay_of_shaped c.2), c.1, c.2, k _ _ _ (Ext.refl hs) (.bl _)⟩
  · cases h
theorem d_ne : Op2 κ (rNeD κ.K) aNe := by
  intro H F v u x y d Q hs rx ry h k
  unfold aNe at h
  split at h
  · rename_i c
    cases h
    exact ⟨x, y, Rep.dp x v (rx.rep hs (SeqAt.canLay_of_shaped c.1)) (SeqAt.canLay_of_shaped c.1), Rep.dp y u (ry.rep hs (SeqAt.canLay_of_shaped c.2)) (SeqAt.canLay_of_shaped c.2), c.1, c.2, k _ _ _ (Ext.refl hs) (.bl _)⟩
  · cases h
/-- is, is not: None or a flag on the right -/
def isNoneD : D → Bool
  | .none => true
  | _ => false
def isFlagD (b : Bool) : D → Bool
  | .bool c => c == b
  | _ => false
def aIs (x : D) : D → Option D
  | .none => some (.bool (isNoneD x))
  | .bool b => some (.bool (isFlagD b x))
  | _ => none
def aIsNot (x : D) : D → Option D
  | .none => some (.bool (!isNoneD x))
  | .bool b => some (.bool (!isFlagD b x))
  | _ => none
def rIsK0 : R2 := fun x y H Q => (y = .non ∧ Q (.bl (decide (x = .non))) H) ∨ ∃ b, y = .bl b ∧ Q (.bl (decide (x = .bl b))) H
def rIsNotK0 : R2 := fun x y H Q => (y = .non ∧ Q (.bl (!decide (x = .non))) H) ∨ ∃ b, y = .bl b ∧ Q (.bl (!decide (x = .bl b))) H
theorem is_flag {M : Model} {A : Around} {E : Value → Shared → Prop} {s : Shared} {Q : Value → Shared → Prop} {x : V} {v : Value} {c : Bool} (r : RelV x v) (h : Q (.bool (decide (x = .bl c))) s) : wpAny M A (compareOp .Is v (.bool c)) Q E s := by
  cases x with
  | non => cases r; exact wpAny_pure h
  | bl b => cases r; exact is_bool (by cases b <;> cases c <;> exact h)
  | int _ => obtain ⟨t, rfl⟩ := r; exact wpAny_pure h
  | str _ => obtain ⟨t, rfl⟩ := r; exact wpAny_pure h
  | byt _ => obtain ⟨t, rfl⟩ := r; exact wpAny_pure h
  | flt _ => obtain ⟨t, rfl⟩ := r; exact wpAny_pure h
  | ref _ => cases r; exact wpAny_pure h
  | ty _ => cases r; exact wpAny_pure h
theorem isnot_flag {M : Model} {A : Around} {E : Value → Shared → Prop} {s : Shared} {Q : Value → Shared → Prop} {x : V} {v : Value} {c : Bool} (r : RelV x v) (h : Q (.bool (!decide (x = .bl c))) s) : wpAny M A (compareOp .IsNot v (.bool c)) Q E s := by
  cases x with
  | non => cases r; exact wpAny_pure h
  | bl b => cases r; exact isnot_bool (by cases b <;> cases c <;> exact h)
  | int _ => obtain ⟨t, rfl⟩ := r; exact wpAny_pure h
  | str _ => obtain ⟨t, rfl⟩ := r; exact wpAny_pure h
  | byt _ => obtain ⟨t, rfl⟩ := r; exact wpAny_pure h
  | flt _ => obtain ⟨t, rfl⟩ := r; exact wpAny_pure h
  | ref _ => cases r; exact wpAny_pure h
  | ty _ => cases r; exact wpAny_pure h
theorem op_isK0 : OpR X (compareOp .Is) rIsK0 := by
  refine opr_or op_isN ?_
  intro pins s σ H x y v u Q I rx ry h
  obtain ⟨b, rfl, q⟩ := h
  cases ry
  exact is_flag rx ⟨.bl _, H, I, rfl, q⟩
theorem op_isNotK0 : OpR X (compareOp .IsNot) rIsNotK0 := by
  refine opr_or op_notN ?_
  intro pins s σ H x y v u Q I rx ry h
  obtain ⟨b, rfl, q⟩ := h
  cases ry
  exact isnot_flag rx ⟨.bl _, H, I, rfl, q⟩
theorem rep_non {H F : Hp} {v : V} {x : D} (r : RepP κ H F v x) : decide (v = .non) = isNoneD x := by
  cases x with
  | none => obtain rfl := Rep.isNone r; rfl
  | bool b => obtain rfl := Rep.isBool r; rfl
  | int i => obtain rfl := Rep.isInt r; rfl
  | str s => obtain rfl := Rep.isStr r; rfl
  | list xs => obtain ⟨_, _, rfl, _⟩ := r; rfl
  | tuple xs => obtain ⟨_, _, rfl, _⟩ := r; rfl
  | dict xs => rcases r with ⟨_, _, rfl, _⟩ | ⟨_, _, _, rfl, _⟩ <;> rfl
theorem rep_flag {H F : Hp} {v : V} {x : D} {b : Bool} (r : RepP κ H F v x) : decide (v = .bl b) = isFlagD b x := by
  cases x with
  | none => obtain rfl := Rep.isNone r; rfl
  | bool c => obtain rfl := Rep.isBool r; cases b <;> cases c <;> rfl
  | int i => obtain rfl := Rep.isInt r; rfl
  | str s => obtain rfl := Rep.isStr r; rfl
  | list xs => obtain ⟨_, _, rfl, _⟩ := r; rfl
  | tuple xs => obtain ⟨_, _, rfl, _⟩ := r; rfl
  | dict xs => rcases r with ⟨_, _, rfl, _⟩ | ⟨_, _, _, rfl, _⟩ <;> rfl
theorem d_is : Op2 κ rIsK0 aIs := by
  intro H F v u x y d Q hs rx ry h k
  cases y with
  | none =>
    obtain rfl := Rep.isNone ry
    cases h
    exact .inl ⟨rfl, by rw [rep_non rx]; exact k _ _ _ (Ext.refl hs) (.bl _)⟩
  | bool b =>
    obtain rfl := Rep.isBool ry
    cases h
    exact .inr ⟨b, rfl, by rw [rep_flag rx]; exact k _ _ _ (Ext.refl hs) (.bl _)⟩
  | _ => cases h
theorem d_isNot : Op2 κ rIsNotK0 aIsNot := by
  intro H F v u x y d Q hs rx ry h k
  cases y with
  | none =>
    obtain rfl := Rep.isNone ry
    cases h
    exact .inl ⟨rfl, by rw [rep_non rx]; exact k _ _ _ (Ext.refl hs) (.bl _)⟩
  | bool b =>
    obtain rfl := Rep.isBool ry
    cases h
    exact .inr ⟨b, rfl, by rw [rep_flag rx]; exact k _ _ _ (Ext.refl hs) (.bl _)⟩
  | _ => cases h
/-! ### items -/
def aIx : D → D → Option D
  | .list xs, .int i => atI xs i
  | .tuple xs, .int i => atI xs i
  | .str s, .int i => if s.length ≤ sizeLine then (atI s.cps.toList i).map fun c => .str ⟨#[c]⟩ else none
  | .dict [(.none, .list xs)], .int i => atI xs i
  | _, _ => none
theorem atI_rep {F : Hp} {vs : List V} {xs : List D} {i : Int} {d : D} (r : Reps κ F vs xs) (h : atI xs i = some d) : ∃ v, atI vs i = some v ∧ Rep κ F v d := by
  unfold atI at h ⊢
  rw [r.length]
  cases e : ixN xs.length i with
  | none => rw [e] at h; cases h
  | some j =>
    rw [e, Option.bind_some] at h
    exact r.get h
theorem d_ix : Op2 κ (rIx κ.K) aIx := by
  intro H F v u x y d Q hs rx ry h k
  unfold aIx at h
  split at h
  · obtain ⟨l, vs, rfl, h1, r1⟩ := rx
    obtain rfl := Rep.isInt ry
    obtain ⟨w, hw, rw'⟩ := atI_rep r1 h
    exact .inl ⟨l, vs, _, w, rfl, rfl, .inl h1, hw, k _ _ _ (Ext.refl hs) rw'⟩
  · obtain ⟨l, vs, rfl, h1, r1⟩ := rx
    obtain rfl := Rep.isInt ry
    obtain ⟨w, hw, rw'⟩ := atI_rep r1 h
    exact .inr (.inl ⟨l, vs, _, w, rfl, rfl, h1.sqT, hw, k _ _ _ (Ext.refl hs) rw'⟩)
  · rename_i s i
    obtain rfl := Rep.isStr rx
    obtain rfl := Rep.isInt ry
    split at h
    · rename_i hz
      cases e : atI s.cps.toList i with
      | none => rw [e] at h; cases h
      | some c =>
        rw [e] at h
        cases h
        exact .inr (.inr ⟨s, i, c, rfl, rfl, hz, e, k _ _ _ (Ext.refl hs) (.str _)⟩)
    · cases h
  · obtain rfl := Rep.isInt ry
    rcases rx with ⟨_, _, rfl, _, q⟩ | ⟨l, vs, xs, rfl, e, h1, r1⟩
    · exact (q.noScr).elim
    · cases e
      obtain ⟨w, hw, rw'⟩ := atI_rep r1 h
      exact .inl ⟨l, vs, _, w, rfl, rfl, h1, hw, k _ _ _ (Ext.refl hs) rw'⟩
  · cases h
/-! ### displays -/
def aTup (ds : List D) : Option D := if ds.length ≤ sizeLine then some (.tuple ds) else none
def aLst (ds : List D) : Option D := if ds.length ≤ sizeLine then some (.list ds) else none
/-- every operand is data of its own right -/
def allE (ms : List E) : List Opd := ms.map .e
theorem runE_reps {σ : L2.St} {F : Hp} : ∀ {ms : List E} {env env' : Env} {ts : List Itm}, runOpds (allE ms) env = some (ts, env') → ∃ ds, ts = ds.map .d ∧ getAll env' ts = some ds ∧ ∀ vs, Paired (ItmOk κ σ F) vs ts → Reps κ F vs ds
  | [], env, env', ts, h => by
    cases h
    exact ⟨[], rfl, rfl, fun vs q => by cases q; exact .nil⟩
  | m :: ms, env, env', ts, h => by
    cases e1 : m env with
    | none => simp only [allE, List.map_cons, runOpds, runOpd, e1] at h; cases h
    | some r =>
      cases e2 : runOpds (allE ms) r.2 with
      | none => simp only [allE, List.map_cons, runOpds, runOpd, e1, Option.map_some, Option.bind_some] at h; unfold allE at e2; rw [e2] at h; cases h
      | some b =>
        simp only [allE, List.map_cons, runOpds, runOpd, e1, Option.map_some, Option.bind_some] at h
        have e2' := e2
        unfold allE at e2'
        rw [e2'] at h
        cases h
        obtain ⟨ds, h1, h2, h3⟩ := runE_reps (σ := σ) (F := F) e2
        refine ⟨r.1 :: ds, by rw [h1]; rfl, ?_, fun vs q => ?_⟩
        · simp only [getAll, Itm.get, Option.bind_some, h2, Option.map_some]
        · cases q with
          | cons q1 q2 => exact .cons q1 (h3 _ q2)
theorem ed_tup {es : List Expr} {ms : List E} {j : Nat} (h : PA X es (tOs κ (allE ms))) : PE X (.Tuple es j pos) (tE κ (eOp aTup (allE ms))) := pe_of (pe_tup h) fun σ H Q q => by
  obtain ⟨env, F, ad, d, env', I, hm, k⟩ := q
  obtain ⟨ts, ds, h1, h2, h3⟩ := eOp_some hm
  refine ⟨env, F, ad, ts, env', I, h1, fun vs H1 F1 ad1 I1 g1 r1 => ?_⟩
  obtain ⟨ds', q1, q2, q3⟩ := runE_reps (κ := κ) (σ := σ) (F := F1) h1
  rw [h2] at q2
  cases q2
  have rr := q3 vs r1
  unfold aTup at h3
  split at h3
  · rename_i hz
    cases h3
    refine ⟨by rw [rr.length]; exact hz, fun p hp => fin_tup I1.sub hp rr rfl fun w H2 F2 x r => k w H2 F2 ad1 (I1.ext x) (g1.trans (Go.ext x)) r⟩
  · cases h3
theorem eo_lst {es : List Expr} {ms : List E} (h : PA X es (tOs κ (allE ms))) : PE X (.List es pos) (tO κ (eOp aLst (allE ms))) := pe_of (pe_lst h) fun σ H Q q => by
  obtain ⟨env, F, ad, d, env', I, hm, k⟩ := q
  obtain ⟨ts, ds, h1, h2, h3⟩ := eOp_some hm
  refine ⟨env, F, ad, ts, env', I, h1, fun vs H1 F1 ad1 I1 g1 r1 => ?_⟩
  obtain ⟨ds', q1, q2, q3⟩ := runE_reps (κ := κ) (σ := σ) (F := F1) h1
  rw [h2] at q2
  cases q2
  have rr := q3 vs r1
  unfold aLst at h3
  split at h3
  · rename_i hz
    cases h3
    refine ⟨by rw [rr.length]; exact hz, fun p hp => fin_lstO I1.sub hp rr rfl fun a H2 F2 x ha hf ht => k a H2 F2 ad1 (I1.ext x) (g1.trans (Go.ext x)) ?_ hf (fun kd q => I1.fresh ha kd q) ht⟩
    cases e : H a with
    | none => rfl
    | some o => exact absurd ha (g1.pres a (by rw [e]; simp))
  · cases h3
end DL
/-! The data layer, 7: calls of built-in functions; slices; stores. -/
namespace DL
open PySem L2 PyProof.Rows
variable {κ : Kx} {X : Cx} {e a b : Expr} {pos : Pos}
/-! ### isinstance -/
def tyNm : D → String
  | .none => "NoneType"
  | .bool _ => "bool"
  | .int _ => "int"
  | .str _ => "str"
  | .list _ => "list"
  | .tuple _ => "tuple"
  | .dict _ => "dict"
def isiD (T : String) (d : D) : Bool := tyNm d == T || (T == "int" && tyNm d == "bool")
def isiTys : List String := ["int", "str", "bool", "list", "tuple", "dict"]
theorem isi_kit : ((["NoneType", "bool", "int", "str", "list", "tuple", "dict"] : List String).all fun a => isiTys.all fun b => decide (kitB a b = some (a == b || (b == "int" && a == "bool")))) = true := by decide +kernel
theorem isi_one {K : PySem.W.Frag} {T : String} (d : D) (h : T ∈ isiTys) : PySem.W.kitOne K (.type (tyNm d)) (.type T) = some (isiD T d) := by
  have q := List.all_eq_true.mp isi_kit (tyNm d) (by cases d <;> simp [tyNm])
  exact kit_ty (of_decide_eq_true (List.all_eq_true.mp q T h))
def rIsiD (K : PySem.W.Frag) : List V → Hp → VK → Prop := fun xs H Q => rIsi K xs H Q ∨ ∃ (x : V) (T : String) (p : Addr) (o : Obj) (kvs : List (List Key × V)) (r : Bool), xs = [x, .ty T] ∧ x = .ref p ∧ H p = some (.frz o (.dT kvs)) ∧ PySem.W.kitOne K (.type "dict") (.type T) = some r ∧ Q (.bl r) H
theorem call_isiD : CallR X (.builtin "isinstance") (rIsiD X.K) := by
  intro pins s σ H xs us Q I r h
  rcases h with h | ⟨x, T, p, o, kvs, b, rfl, rfl, hp, e, q⟩
  · exact call_isi pins s σ H xs us Q I r h
  · obtain ⟨u1, u2, rfl, r1, r2⟩ := vals2 r
    cases r1
    cases r2
    obtain ⟨_, _, _, _, _, ob, es, ep, h1, h2, _⟩ := (show ObjOk X.prog X.w H s.heap p (.frz o (.dT kvs)) from I.hok p _ hp)
    exact PySem.W.kia_one PySem.W.kitx_dict I.kIn ⟨ob, h1, h2.1⟩ e (fun z => nomatch z) fun tk => ⟨.bl b, H, I.tok tk, rfl, q⟩
/-- is it the script? -/
def scrD : D → Bool
  | .dict [(.none, _)] => true
  | _ => false
theorem isi_of {H F : Hp} {v : V} {d : D} {T : String} {Q : VK} (h : RepP κ H F v d) (hT : T ∈ isiTys) (hns : scrD d = false) (q : Q (.bl (isiD T d)) H) : rIsiD κ.K [v, .ty T] H Q := by
  have z := isi_one (K := κ.K) d hT
  have go : ∀ t, TyX κ.K H v t → t = .type (tyNm d) → rIsiD κ.K [v, .ty T] H Q := fun t ty e => .inl ⟨v, .ty T, t, .type T, _, rfl, .ty T, ty, by rw [e]; exact z, q⟩
  cases d with
  | none => obtain rfl := Rep.isNone h; exact go _ (.base .non) rfl
  | bool c => obtain rfl := Rep.isBool h; exact go _ (.base (.bl c)) rfl
  | int i => obtain rfl := Rep.isInt h; exact go _ (.base (.int i)) rfl
  | str s => obtain rfl := Rep.isStr h; exact go _ (.base (.str s)) rfl
  | list xs =>
    obtain ⟨p, vs, rfl, h1, _⟩ := h
    rcases h1 with h1 | ⟨o, h1⟩
    · exact go _ (.base (.lst h1)) rfl
    · exact go _ (.base (.frz h1)) rfl
  | tuple xs =>
    obtain ⟨p, vs, rfl, h1, _⟩ := h
    rcases h1 with h1 | ⟨hc, h1⟩
    · exact go _ (.base (.tup h1)) rfl
    · rcases h1 with (h1 | ⟨o, h1⟩) | ⟨o, its, n, hk, hcl, _⟩
      · cases h1
      · cases h1
      · exact go _ (.kTuple hk hcl) rfl
  | dict kvs =>
    rcases h with ⟨p, o, rfl, h1, h2⟩ | ⟨_, _, _, rfl, rfl, _⟩
    rotate_left
    · cases hns
    rcases h2 with ⟨ps, rfl, _⟩ | ⟨ps, rfl, _⟩
    · rcases h1 with h1 | ⟨ob, h1⟩
      · exact go _ (.base (.dK h1)) rfl
      · exact go _ (.fDict h1) rfl
    · rcases h1 with h1 | ⟨ob, h1⟩
      · exact go _ (.base (.dT h1)) rfl
      · exact .inr ⟨_, T, p, ob, ps, _, rfl, rfl, h1, z, q⟩
def aIsi (T : String) : D → Option D := fun d => if T ∈ isiTys ∧ scrD d = false then some (.bool (isiD T d)) else none
theorem ed_isi {T : String} {o : Opd} {p : Pos} (hκ : κ.K = X.K) (hg : Gl X "isinstance") (hm : X.mg "isinstance" = none) (ha : PE X a (tOpd κ o)) (hb : PE X b (tC (.ty T))) (hv : bootBuiltins ("isinstance" : Str) = some (.builtin "isinstance") := by decide +kernel)
    (hs1 : starEach [b] X.env = (false, eval b X.env) :: starEach [] X.env := by rfl) (he : starEach (a :: [b]) X.env = (false, eval a X.env) :: starEach [b] X.env := by rfl) (hpl : (backTo pos (starEach [b] X.env)).any (·.1) = false := by rfl) :
    PE X (.Call (.Name "isinstance" p) [a, b] [] pos) (tE κ (eOp1 (aIsi T) o)) :=
  pe_of (pe_callB call_isiD hg hm hv (pa_cons ha (pa_cons hb pa_nil hs1) he) (by decide) (by decide) he hpl) fun σ H Q q => by
    obtain ⟨env, F, ad, d, env', I, hm, k⟩ := q
    obtain ⟨ts, ds, h1, h2, h3⟩ := eOp_some hm
    have r1 := h1
    cases e1 : runOpd o env with
    | none => simp only [runOpds, e1] at h1; cases h1
    | some x =>
      simp only [runOpds, e1, Option.bind_some] at h1
      cases h1
      refine ⟨env, F, ad, x.1, x.2, I, e1, fun v H1 F1 ad1 I1 g1 rr => ?_⟩
      cases e2 : x.1.get x.2 with
      | none => simp only [getAll, e2] at h2; cases h2
      | some y =>
        simp only [getAll, e2, Option.bind_some] at h2
        cases h2
        simp only [f1, aIsi] at h3
        split at h3
        · rename_i hT
          cases h3
          exact hκ ▸ isi_of (rr.top I1 e2) hT.1 hT.2 (k _ H1 F1 ad1 I1 g1 (.bl _))
        · cases h3
/-! ### len, int, abs, gcd, tuple, list -/
theorem cr_or {f : Value} {r r' : List V → Hp → VK → Prop} (h : CallR X f r) (h' : CallR X f r') : CallR X f (fun xs H Q => r xs H Q ∨ r' xs H Q) := fun pins s σ H xs us Q I rx q => by
  rcases q with q | q
  · exact h pins s σ H xs us Q I rx q
  · exact h' pins s σ H xs us Q I rx q
def aLen : List D → Option D
  | [.list xs] => some (.int (xs.length : Int))
  | [.tuple xs] => some (.int (xs.length : Int))
  | [.str s] => if s.length ≤ sizeLine then some (.int (s.length : Int)) else none
  | [.dict [(.none, .list xs)]] => some (.int (xs.length : Int))
  | [.dict kvs] => if scrD (.dict kvs) = true then none else some (.int (kvs.length : Int))
  | _ => none
def rLenSeq (K : PySem.W.Frag) : List V → Hp → VK → Prop := fun xs H Q => ∃ p ys, xs = [.ref p] ∧ (SqL K H p ys ∨ SqT K H p ys) ∧ Q (.int ys.length) H
def rLenStr : List V → Hp → VK → Prop := fun xs H Q => ∃ z, xs = [.str z] ∧ z.length ≤ sizeLine ∧ Q (.int z.length) H
/-- a dict of either kind -/
def IsDic (o : HO) (n : Nat) : Prop := (∃ ps, o = .dK ps ∧ ps.length = n) ∨ ∃ ps, o = .dT ps ∧ ps.length = n
theorem RepKs.length {F : Hp} : ∀ {ps : List (Key × V)} {kvs : List (D × D)}, RepKs κ F ps kvs → ps.length = kvs.length
  | _, _, .nil => rfl
  | _, _, .cons _ q => by rw [List.length_cons, List.length_cons, q.length]
theorem RepTs.length {F : Hp} : ∀ {ps : List (List Key × V)} {kvs : List (D × D)}, RepTs κ F ps kvs → ps.length = kvs.length
  | _, _, .one _ => rfl
  | _, _, .cons _ q => by rw [List.length_cons, List.length_cons, q.length]
theorem DicAt.isDic {F : Hp} {o : HO} {kvs : List (D × D)} (h : DicAt κ F o kvs) : IsDic o kvs.length := by
  rcases h with ⟨ps, e, q⟩ | ⟨ps, e, q⟩
  · exact .inl ⟨ps, e, q.length⟩
  · exact .inr ⟨ps, e, q.length⟩
def rLenD : List V → Hp → VK → Prop := fun xs H Q => ∃ p o n, xs = [.ref p] ∧ Rd H p o ∧ IsDic o n ∧ Q (.int (n : Int)) H
theorem call_lenD : CallR X (.builtin "len") rLenD := by
  intro pins s σ H xs us Q I r h
  obtain ⟨p, o, n, rfl, hp, hd, q⟩ := h
  obtain ⟨u, rfl, rx⟩ := vals1 r
  cases rx
  rcases hd with ⟨ps, rfl, rfl⟩ | ⟨ps, rfl, rfl⟩
  · exact d_len I hp fun t s' I' => ⟨.int _, H, I', ⟨_, rfl⟩, q⟩
  · obtain ⟨z, hm, ys, rel, dd⟩ := dt_rd I.hok hp
    have hl : ps.length = ys.length := Paired.length rel
    have hz := sizeLine_eq
    refine call_len_dictH hm dd (by omega) ?_
    rw [← hl]
    exact ⟨.int _, H, I.tok _, ⟨_, rfl⟩, q⟩
def rLenAll (K : PySem.W.Frag) : List V → Hp → VK → Prop := fun xs H Q => rLenSeq K xs H Q ∨ (rLenStr xs H Q ∨ rLenD xs H Q)
theorem call_lenAll : CallR X (.builtin "len") (rLenAll X.K) := cr_or call_len_seq (cr_or call_len_str call_lenD)
theorem n_len : OpN κ (rLenAll κ.K) aLen := by
  intro H F vs ds d Q hs hp hf k
  have x0 : Ext H F H F := Ext.refl hs
  unfold aLen at hf
  split at hf
  · obtain ⟨v, rfl, p, ws, rfl, h1, r1⟩ := Paired.one' hp
    cases hf
    exact .inl ⟨p, ws, rfl, .inl (.inl h1), by rw [r1.length]; exact k _ _ _ x0 (.int _)⟩
  · obtain ⟨v, rfl, p, ws, rfl, h1, r1⟩ := Paired.one' hp
    cases hf
    exact .inl ⟨p, ws, rfl, .inr h1.sqT, by rw [r1.length]; exact k _ _ _ x0 (.int _)⟩
  · obtain ⟨v, rfl, r1⟩ := Paired.one' hp
    obtain rfl := Rep.isStr r1
    split at hf
    · rename_i hz
      cases hf
      exact .inr (.inl ⟨_, rfl, hz, k _ _ _ x0 (.int _)⟩)
    · cases hf
  · obtain ⟨v, rfl, r⟩ := Paired.one' hp
    rcases r with ⟨_, _, rfl, _, q⟩ | ⟨p, ws, xs, rfl, e, h1, r1⟩
    · exact (q.noScr).elim
    · cases e
      cases hf
      exact .inl ⟨p, ws, rfl, .inl h1, by rw [r1.length]; exact k _ _ _ x0 (.int _)⟩
  · obtain ⟨v, rfl, r⟩ := Paired.one' hp
    rcases r with ⟨p, o, rfl, h1, r1⟩ | ⟨p, ws, xs, rfl, rfl, h1, r1⟩
    · split at hf
      · cases hf
      · cases hf
        exact .inr (.inr ⟨p, o, _, rfl, h1, r1.isDic, k _ _ _ x0 (.int _)⟩)
    · cases hf
  · cases hf
def aInt : List D → Option D
  | [.int i] => some (.int i)
  | [.bool b] => some (.int (if b then 1 else 0))
  | _ => none
def rInt1 : List V → Hp → VK → Prop := fun xs H Q => (∃ i, xs = [.int i] ∧ Q (.int i) H) ∨ ∃ k, xs = [.bl k] ∧ Q (.int (if k then 1 else 0)) H
theorem call_intB : CallR X (.type "int") rInt1 := call_int1
theorem n_int : OpN κ rInt1 aInt := by
  intro H F vs ds d Q hs hp hf k
  unfold aInt at hf
  split at hf
  · obtain ⟨v, rfl, r1⟩ := Paired.one' hp
    obtain rfl := Rep.isInt r1
    cases hf
    exact .inl ⟨_, rfl, k _ _ _ (Ext.refl hs) (.int _)⟩
  · obtain ⟨v, rfl, r1⟩ := Paired.one' hp
    obtain rfl := Rep.isBool r1
    cases hf
    exact .inr ⟨_, rfl, k _ _ _ (Ext.refl hs) (.int _)⟩
  · cases hf
def aAbs : List D → Option D
  | [.int i] => some (.int (if i < 0 then -i else i))
  | _ => none
def rAbs1 : List V → Hp → VK → Prop := fun xs H Q => ∃ i, xs = [.int i] ∧ Q (.int (if i < 0 then -i else i)) H
theorem call_absB : CallR X (.builtin "abs") rAbs1 := call_abs
theorem n_abs : OpN κ rAbs1 aAbs := by
  intro H F vs ds d Q hs hp hf k
  unfold aAbs at hf
  split at hf
  · obtain ⟨v, rfl, r1⟩ := Paired.one' hp
    obtain rfl := Rep.isInt r1
    cases hf
    exact ⟨_, rfl, k _ _ _ (Ext.refl hs) (.int _)⟩
  · cases hf
def aGcd : List D → Option D
  | [.int i, .int j] => some (.int ((Nat.gcd i.natAbs j.natAbs : Nat) : Int))
  | _ => none
theorem n_gcd : OpN κ rGcd aGcd := by
  intro H F vs ds d Q hs hp hf k
  unfold aGcd at hf
  split at hf
  · obtain ⟨v, w, rfl, r1, r2⟩ := Paired.two' hp
    obtain rfl := Rep.isInt r1
    obtain rfl := Rep.isInt r2
    cases hf
    exact ⟨_, _, rfl, k _ _ _ (Ext.refl hs) (.int _)⟩
  · cases hf
def aTuple : List D → Option D
  | [.list xs] => some (.tuple xs)
  | [.tuple xs] => some (.tuple xs)
  | _ => none
def rTupleOf (K : PySem.W.Frag) : List V → Hp → VK → Prop := fun xs H Q => ∃ p ys, xs = [.ref p] ∧ ((SqL K H p ys ∧ ∀ l, H l = none → Q (.ref l) (upd H l (.tup ys))) ∨ (SqT K H p ys ∧ Q (.ref p) H))
theorem call_tupleB : CallR X (.type "tuple") (rTupleOf X.K) := call_tuple_of
/-- what is within a tuple of H is data already; the tuple itself becomes data -/
theorem tup_data {H F : Hp} {p : Addr} {vs : List V} {xs : List D} (hs : Sub F H) (h : TupAt κ H p vs) (r : Reps κ F vs xs) : ∃ F', Ext H F H F' ∧ Rep κ F' (.ref p) (.tuple xs) := by
  rcases h with h | h
  · have mono : ∀ a u, F a = some u → upd F p (.tup vs) a = some u := fun a u e => by
      by_cases z : a = p
      · subst z
        rcases hs a u e with q | ⟨m, od, q⟩
        · rw [h] at q; cases q; exact upd_same
        · rw [h] at q; cases q
      · rw [upd_ne z]; exact e
    refine ⟨upd F p (.tup vs), ⟨fun _ _ e => e, mono, fun a e => ?_, fun _ _ e => .inl e, fun a u e => ?_⟩, .tup (.inl upd_same) (r.mono (.of_eq mono))⟩
    · by_cases z : a = p
      · subst z; exact .inr (.inr ⟨vs, h⟩)
      · rw [upd_ne z] at e; exact .inl e
    · by_cases z : a = p
      · subst z; rw [upd_same] at e; cases e; exact .inl h
      · rw [upd_ne z] at e; exact hs a u e
  · exact ⟨F, Ext.refl hs, .tup (.inr h) r⟩
theorem n_tuple : OpN κ (rTupleOf κ.K) aTuple := by
  intro H F vs ds d Q hs hp hf k
  unfold aTuple at hf
  split at hf
  · obtain ⟨v, rfl, p, ws, rfl, h1, r1⟩ := Paired.one' hp
    cases hf
    exact ⟨p, ws, rfl, .inl ⟨.inl h1, fun l hl => fin_tup hs hl r1 rfl k⟩⟩
  · obtain ⟨v, rfl, p, ws, rfl, h1, r1⟩ := Paired.one' hp
    cases hf
    obtain ⟨F', x, r⟩ := tup_data hs h1 r1
    exact ⟨p, ws, rfl, .inr ⟨h1.sqT, k _ _ _ x r⟩⟩
  · cases hf
def aList : List D → Option D
  | [.list xs] => some (.list xs)
  | [.tuple xs] => some (.list xs)
  | _ => none
theorem o_list : OpNo κ (Evl.rListS κ.K) aList := by
  intro H F vs ds d Q hs hp hf k
  unfold aList at hf
  split at hf
  · obtain ⟨v, rfl, p, ws, rfl, h1, r1⟩ := Paired.one' hp
    cases hf
    exact ⟨p, ws, rfl, .inl (.inl h1), fun l hl => fin_lstO hs hl r1 rfl k⟩
  · obtain ⟨v, rfl, p, ws, rfl, h1, r1⟩ := Paired.one' hp
    cases hf
    exact ⟨p, ws, rfl, .inr h1.sqT, fun l hl => fin_lstO hs hl r1 rfl k⟩
  · cases hf
/-! ### sum, all, any -/
def intsD : List D → Option (List Int)
  | [] => some []
  | .int i :: r => (intsD r).map fun l => i :: l
  | _ :: _ => none
def boolsD : List D → Option (List Bool)
  | [] => some []
  | .bool i :: r => (boolsD r).map fun l => i :: l
  | _ :: _ => none
theorem intsD_vs {F : Hp} : ∀ {ds : List D} {ns : List Int} {vs : List V}, intsD ds = some ns → Reps κ F vs ds → vs = ns.map V.int
  | [], ns, vs, h, r => by cases h; cases r; rfl
  | d :: ds, ns, vs, h, r => by
    cases r with
    | cons r q =>
      cases d with
      | int i =>
        simp only [intsD] at h
        cases e : intsD ds with
        | none => rw [e] at h; cases h
        | some l =>
          rw [e] at h
          cases h
          obtain rfl := Rep.isInt r
          rw [intsD_vs e q]; rfl
      | _ => simp only [intsD] at h; cases h
theorem boolsD_vs {F : Hp} : ∀ {ds : List D} {ns : List Bool} {vs : List V}, boolsD ds = some ns → Reps κ F vs ds → vs = ns.map V.bl
  | [], ns, vs, h, r => by cases h; cases r; rfl
  | d :: ds, ns, vs, h, r => by
    cases r with
    | cons r q =>
      cases d with
      | bool i =>
        simp only [boolsD] at h
        cases e : boolsD ds with
        | none => rw [e] at h; cases h
        | some l =>
          rw [e] at h
          cases h
          obtain rfl := Rep.isBool r
          rw [boolsD_vs e q]; rfl
      | _ => simp only [boolsD] at h; cases h
def aSum : List D → Option D
  | [.list xs] => (intsD xs).map fun l => .int l.sum
  | _ => none
def aAll : List D → Option D
  | [.list xs] => (boolsD xs).map fun l => .bool (l.all id)
  | _ => none
def aAny : List D → Option D
  | [.list xs] => (boolsD xs).map fun l => .bool (l.any id)
  | _ => none
theorem n_sum : OpN κ (rSum κ.K) aSum := by
  intro H F vs ds d Q hs hp hf k
  unfold aSum at hf
  split at hf
  · rename_i xs
    obtain ⟨v, rfl, p, ws, rfl, h1, r1⟩ := Paired.one' hp
    cases e : intsD xs with
    | none => rw [e] at hf; cases hf
    | some l =>
      rw [e] at hf
      cases hf
      obtain rfl := intsD_vs e r1
      exact ⟨p, l, rfl, .inl h1, k _ _ _ (Ext.refl hs) (.int _)⟩
  · cases hf
theorem n_all : OpN κ (rAll κ.K) aAll := by
  intro H F vs ds d Q hs hp hf k
  unfold aAll at hf
  split at hf
  · rename_i xs
    obtain ⟨v, rfl, p, ws, rfl, h1, r1⟩ := Paired.one' hp
    cases e : boolsD xs with
    | none => rw [e] at hf; cases hf
    | some l =>
      rw [e] at hf
      cases hf
      obtain rfl := boolsD_vs e r1
      exact ⟨p, l, rfl, .inl h1, k _ _ _ (Ext.refl hs) (.bl _)⟩
  · cases hf
theorem n_any : OpN κ (rAny κ.K) aAny := by
  intro H F vs ds d Q hs hp hf k
  unfold aAny at hf
  split at hf
  · rename_i xs
    obtain ⟨v, rfl, p, ws, rfl, h1, r1⟩ := Paired.one' hp
    cases e : boolsD xs with
    | none => rw [e] at hf; cases hf
    | some l =>
      rw [e] at hf
      cases hf
      obtain rfl := boolsD_vs e r1
      exact ⟨p, l, rfl, .inl h1, k _ _ _ (Ext.refl hs) (.bl _)⟩
  · cases hf
/-! ### calls by name -/
theorem ed_blt {x : Str} {id : String} {r : List V → Hp → VK → Prop} {f : List D → Option D} {es : List Expr} {os : List Opd} {p : Pos} (hc : CallR X (.builtin id) r) (hr : OpN κ r f) (hg : Gl X x) (hm : X.mg x = none) (hv : bootBuiltins x = some (.builtin id)) (ha : PA X (e :: es) (tOs κ os))
    (hn : x ≠ "__name__" := by decide) (hdb : (x == ("__debug__" : Str)) = false := by decide) (he : starEach (e :: es) X.env = (false, eval e X.env) :: starEach es X.env := by rfl) (hpl : (backTo pos (starEach es X.env)).any (·.1) = false := by rfl) :
    PE X (.Call (.Name x p) (e :: es) [] pos) (tE κ (eOp f os)) := pe_of (pe_callB hc hg hm hv ha hn hdb he hpl) fun _ _ _ q => opN_args hr q
theorem eo_blt {x : Str} {id : String} {r : List V → Hp → VK → Prop} {f : List D → Option D} {es : List Expr} {os : List Opd} {p : Pos} (hc : CallR X (.builtin id) r) (hr : OpNo κ r f) (hg : Gl X x) (hm : X.mg x = none) (hv : bootBuiltins x = some (.builtin id)) (ha : PA X (e :: es) (tOs κ os))
    (hn : x ≠ "__name__" := by decide) (hdb : (x == ("__debug__" : Str)) = false := by decide) (he : starEach (e :: es) X.env = (false, eval e X.env) :: starEach es X.env := by rfl) (hpl : (backTo pos (starEach es X.env)).any (·.1) = false := by rfl) :
    PE X (.Call (.Name x p) (e :: es) [] pos) (tO κ (eOp f os)) := pe_of (pe_callB hc hg hm hv ha hn hdb he hpl) fun _ _ _ q => opNo_args hr q
theorem ed_ty {x : Str} {T : String} {r : List V → Hp → VK → Prop} {f : List D → Option D} {es : List Expr} {os : List Opd} {p : Pos} (hc : CallR X (.type T) r) (hr : OpN κ r f) (hg : Gl X x) (hm : X.mg x = none) (hv : bootBuiltins x = some (.type T)) (ha : PA X (e :: es) (tOs κ os))
    (hn : x ≠ "__name__" := by decide) (hdb : (x == ("__debug__" : Str)) = false := by decide) (he : starEach (e :: es) X.env = (false, eval e X.env) :: starEach es X.env := by rfl) (hpl : (backTo pos (starEach es X.env)).any (·.1) = false := by rfl) :
    PE X (.Call (.Name x p) (e :: es) [] pos) (tE κ (eOp f os)) := pe_of (pe_callTy hc hg hm hv ha hn hdb he hpl) fun _ _ _ q => opN_args hr q
theorem eo_ty {x : Str} {T : String} {r : List V → Hp → VK → Prop} {f : List D → Option D} {es : List Expr} {os : List Opd} {p : Pos} (hc : CallR X (.type T) r) (hr : OpNo κ r f) (hg : Gl X x) (hm : X.mg x = none) (hv : bootBuiltins x = some (.type T)) (ha : PA X (e :: es) (tOs κ os))
    (hn : x ≠ "__name__" := by decide) (hdb : (x == ("__debug__" : Str)) = false := by decide) (he : starEach (e :: es) X.env = (false, eval e X.env) :: starEach es X.env := by rfl) (hpl : (backTo pos (starEach es X.env)).any (·.1) = false := by rfl) :
    PE X (.Call (.Name x p) (e :: es) [] pos) (tO κ (eOp f os)) := pe_of (pe_callTy hc hg hm hv ha hn hdb he hpl) fun _ _ _ q => opNo_args hr q
/-- a built-in that a module's name stands for (gcd) -/
theorem ed_bfun {x : Str} {id : String} {r : List V → Hp → VK → Prop} {f : List D → Option D} {es : List Expr} {os : List Opd} {p : Pos} (hc : CallR X (.builtin id) r) (hr : OpN κ r f) (hg : Gl X x) (hm : X.mg x = some (.builtin id)) (ha : PA X (e :: es) (tOs κ os))
    (hdb : (x == ("__debug__" : Str)) = false := by decide) (he : starEach (e :: es) X.env = (false, eval e X.env) :: starEach es X.env := by rfl) (hpl : (backTo pos (starEach es X.env)).any (·.1) = false := by rfl) :
    PE X (.Call (.Name x p) (e :: es) [] pos) (tE κ (eOp f os)) := pe_of (pe_callBfun hc hg hm ha hdb he hpl) fun _ _ _ q => opN_args hr q
/-! ### slices -/
inductive Prt where
  | no
  | e (m : E)
def runPrt : Prt → Env → Option (Option Int × Env)
  | .no, env => some (none, env)
  | .e m, env => match m env with
    | some (.int i, env') => some (some i, env')
    | _ => none
def tPrt (κ : Kx) (p : Prt) : TO := fun σ H Q => ∃ env F ad r env', Sim κ env σ H F ad ∧ runPrt p env = some (r, env') ∧ ∀ H' F' ad', Sim κ env' σ H' F' ad' → Go env H F ad env' H' F' ad' → Q r H'
theorem po_of {o : Option Expr} {t t' : TO} (h : PO X o t) (w : ∀ σ H Q, t' σ H Q → t σ H Q) : PO X o t' := ⟨fun pins s σ H Q I q => h.run pins s σ H Q I (w σ H Q q)⟩
theorem pr_no : PO X none (tPrt κ .no) := po_of po_none fun σ H Q q => by
  obtain ⟨env, F, ad, r, env', I, hm, k⟩ := q
  cases hm
  exact k H F ad I Go.refl
theorem pr_e {m : E} (h : PE X e (tE κ m)) : PO X (some e) (tPrt κ (.e m)) := po_of (po_some h) fun σ H Q q => by
  obtain ⟨env, F, ad, r, env', I, hm, k⟩ := q
  simp only [runPrt] at hm
  split at hm
  · rename_i i env1 e1
    cases hm
    exact ⟨env, F, ad, _, _, I, e1, fun v H1 F1 ad1 I1 g1 r1 => ⟨_, r1.isInt, k H1 F1 ad1 I1 g1⟩⟩
  · cases hm
/-- what a slice picks -/
def cutD {α : Type} (xs : List α) (lo hi : Option Int) : List α := (xs.drop (HT.sIx xs.length 0 lo)).take (HT.sIx xs.length xs.length hi - HT.sIx xs.length 0 lo)
theorem cut_rep {F : Hp} {vs : List V} {xs : List D} (r : Reps κ F vs xs) (lo hi : Option Int) : Reps κ F (cutV vs lo hi) (cutD xs lo hi) := by
  unfold cutV cutD
  rw [r.length]
  exact (r.drop _).take _
def aSl (lo hi : Option Int) : D → Option D
  | .list xs => some (.list (cutD xs lo hi))
  | _ => none
def rSlAll (K : PySem.W.Frag) : V → Option Int → Option Int → Hp → VK → Prop := rSlL K
def eSl (f : Option Int → Option Int → D → Option D) (o : Opd) (lo hi : Prt) : E := fun env => (runOpd o env).bind fun a => (runPrt lo a.2).bind fun l => (runPrt hi l.2).bind fun h => (a.1.get h.2).bind fun d => (f l.1 h.1 d).map fun r => (r, h.2)
theorem eSl_some {f : Option Int → Option Int → D → Option D} {o : Opd} {lo hi : Prt} {env env' : Env} {d : D} (h : eSl f o lo hi env = some (d, env')) :
    ∃ t env1 l env2 u x, runOpd o env = some (t, env1) ∧ runPrt lo env1 = some (l, env2) ∧ runPrt hi env2 = some (u, env') ∧ t.get env' = some x ∧ f l u x = some d := by
  unfold eSl at h
  cases e1 : runOpd o env with
  | none => rw [e1] at h; cases h
  | some a =>
    rw [e1, Option.bind_some] at h
    cases e2 : runPrt lo a.2 with
    | none => rw [e2] at h; cases h
    | some l =>
      rw [e2, Option.bind_some] at h
      cases e3 : runPrt hi l.2 with
      | none => rw [e3] at h; cases h
      | some u =>
        rw [e3, Option.bind_some] at h
        cases e4 : a.1.get u.2 with
        | none => rw [e4] at h; cases h
        | some x =>
          rw [e4, Option.bind_some] at h
          cases e5 : f l.1 u.1 x with
          | none => rw [e5] at h; cases h
          | some r =>
            rw [e5] at h
            cases h
            exact ⟨a.1, a.2, l.1, l.2, u.1, x, rfl, e2, e3, e4, e5⟩
def OpSlo (κ : Kx) (r : V → Option Int → Option Int → Hp → VK → Prop) (f : Option Int → Option Int → D → Option D) : Prop := ∀ (H F : Hp) (v : V) (lo hi : Option Int) (x d : D) (Q : VK), Sub F H → RepP κ H F v x → f lo hi x = some d →
  (∀ a H' F', Ext H F H' F' → H a = none → F' a = none → TopAt κ H' F' a d → Q (.ref a) H') → r v lo hi H Q
def OpSl (κ : Kx) (r : V → Option Int → Option Int → Hp → VK → Prop) (f : Option Int → Option Int → D → Option D) : Prop := ∀ (H F : Hp) (v : V) (lo hi : Option Int) (x d : D) (Q : VK), Sub F H → RepP κ H F v x → f lo hi x = some d →
  (∀ w H' F', Ext H F H' F' → Rep κ F' w d → Q w H') → r v lo hi H Q
variable {lo hi : Option Expr} {p2 : Pos} {o : Opd} {pl ph : Prt} {f : Option Int → Option Int → D → Option D} {r : V → Option Int → Option Int → Hp → VK → Prop}
theorem eo_sl (hr : SlR X r) (h : OpSlo κ r f) (he : PE X e (tOpd κ o)) (hl : PO X lo (tPrt κ pl)) (hu : PO X hi (tPrt κ ph)) : PE X (.Subscript e (.Slice lo hi none p2) pos) (tO κ (eSl f o pl ph)) :=
  pe_of (pe_slice hr he hl hu) fun σ H Q q => by
    obtain ⟨env, F, ad, d, env', I, hm, k⟩ := q
    obtain ⟨t, env1, l, env2, u, x, h1, h2, h3, h4, h5⟩ := eSl_some hm
    refine ⟨env, F, ad, t, env1, I, h1, fun v H1 F1 ad1 I1 g1 r1 => ⟨env1, F1, ad1, l, env2, I1, h2, fun H2 F2 ad2 I2 g2 => ⟨env2, F2, ad2, u, env', I2, h3, fun H3 F3 ad3 I3 g3 => ?_⟩⟩⟩
    have g := (g1.trans g2).trans g3
    refine h H3 F3 v l u x d Q I3.sub (ItmOk.top I3 (r1.mono (g2.trans g3).sub) h4) h5 fun a H4 F4 x4 ha hf ht => k a H4 F4 ad3 (I3.ext x4) (g.trans (Go.ext x4)) ?_ hf (fun kd q => I3.fresh ha kd q) ht
    cases e0 : H a with
    | none => rfl
    | some ob => exact absurd ha (g.pres a (by rw [e0]; simp))
theorem ed_sl (hr : SlR X r) (h : OpSl κ r f) (he : PE X e (tOpd κ o)) (hl : PO X lo (tPrt κ pl)) (hu : PO X hi (tPrt κ ph)) : PE X (.Subscript e (.Slice lo hi none p2) pos) (tE κ (eSl f o pl ph)) :=
  pe_of (pe_slice hr he hl hu) fun σ H Q q => by
    obtain ⟨env, F, ad, d, env', I, hm, k⟩ := q
    obtain ⟨t, env1, l, env2, u, x, h1, h2, h3, h4, h5⟩ := eSl_some hm
    refine ⟨env, F, ad, t, env1, I, h1, fun v H1 F1 ad1 I1 g1 r1 => ⟨env1, F1, ad1, l, env2, I1, h2, fun H2 F2 ad2 I2 g2 => ⟨env2, F2, ad2, u, env', I2, h3, fun H3 F3 ad3 I3 g3 => ?_⟩⟩⟩
    have g := (g1.trans g2).trans g3
    exact h H3 F3 v l u x d Q I3.sub (ItmOk.top I3 (r1.mono (g2.trans g3).sub) h4) h5 fun a H4 F4 x4 ht => k a H4 F4 ad3 (I3.ext x4) (g.trans (Go.ext x4)) ht
theorem o_sl : OpSlo κ (rSlL κ.K) aSl := by
  intro H F v lo hi x d Q hs rx hf k
  cases x with
  | list xs =>
    obtain ⟨p, vs, rfl, h1, r1⟩ := rx
    cases hf
    exact ⟨p, vs, rfl, .inl h1, fun l hl => fin_lstO hs hl (cut_rep r1 lo hi) rfl k⟩
  | _ => cases hf
end DL
/-! The data layer, 8: what changes: lists and dicts of one's own; dicts read. -/
namespace DL
open PySem L2 PyProof.Rows
variable {κ : Kx} {X : Cx} {e a b : Expr} {pos : Pos}
/-- a slot's object changes its content -/
theorem Sim.write {env : Env} {σ : L2.St} {H F : Hp} {ad : Nat → Addr} {i : Nat} {s s' : S} {o : HO} (I : Sim κ env σ H F ad) (h : env[i]? = some (some s)) (hk : s.is .rw ∨ s.is .own) (hs : s'.shape = s.shape)
    (ho : ∀ vs, o ≠ .tup vs) (ht : SlotAt κ σ (upd H (ad i) o) F (ad i) i s') : Sim κ (env.set i (some s')) σ (upd H (ad i) o) F ad ∧ Go env H F ad (env.set i (some s')) (upd H (ad i) o) F ad := by
  have hi : i < env.length := (List.getElem?_eq_some_iff.mp h).1
  have hob : s.obj = true := by rcases hk with hk | hk <;> (cases s <;> first | rfl | exact False.elim hk)
  have hob' : s'.obj = true := by cases s <;> cases s' <;> simp_all [S.shape, S.obj]
  obtain ⟨hf, _⟩ := I.objAt h hob
  have other : ∀ (j : Nat) (t : S), (env.set i (some s'))[j]? = some (some t) → i ≠ j → env[j]? = some (some t) := fun j t e z => by rw [getElem?_set', if_neg z] at e; exact e
  have self : ∀ (t : S), (env.set i (some s'))[i]? = some (some t) → t = s' := fun t e => by rw [getElem?_set', if_pos rfl, if_pos hi] at e; cases e; rfl
  have nrw : At .rw env ad (ad i) ∨ At .own env ad (ad i) := hk.imp (fun q => ⟨i, s, h, q, rfl⟩) (fun q => ⟨i, s, h, q, rfl⟩)
  refine ⟨⟨by rw [List.length_set]; exact I.len, fun x u e => ?_, fun j t e => ?_, fun j k t t' e1 e2 o1 o2 q => ?_⟩, ⟨fun x ob e n1 n2 => ?_, fun x e => ?_, fun _ _ e => e, fun _ e => .inl e, fun x vs e => ?_, fun x q => ?_, fun j t e hkk => ?_⟩⟩
  · have ne : x ≠ ad i := fun z => by subst z; rw [hf] at e; cases e
    rw [upd_ne ne]
    exact I.sub x u e
  · by_cases z : i = j
    · subst z
      obtain rfl := self t e
      exact ht
    · have e' := other j t e z
      have q := I.slot j t e'
      have ne : t.obj = true → ad j ≠ ad i := fun o' w => z (I.inj i j s t h e' hob o' w.symm)
      have ob : ∀ {k : Kd} {o'}, ad j ≠ ad i → ObjAt k H (ad j) o' → ObjAt k (upd H (ad i) o) (ad j) o' := fun {k o'} z h => by
        cases k with
        | ro => rcases h with h | ⟨od, h⟩; exact .inl (by rw [upd_ne z]; exact h); exact .inr ⟨od, by rw [upd_ne z]; exact h⟩
        | rw => show upd H (ad i) o (ad j) = _; rw [upd_ne z]; exact h
        | own => show upd H (ad i) o (ad j) = _; rw [upd_ne z]; exact h
      cases t with
      | d y => exact q
      | l k xs => obtain ⟨e1, hf', vs, hv, r'⟩ := q; exact ⟨e1, hf', vs, ob (ne rfl) hv, r'⟩
      | m k xs => obtain ⟨e1, hf', o', hv, r'⟩ := q; exact ⟨e1, hf', o', ob (ne rfl) hv, r'⟩
  · by_cases z1 : i = j
    · by_cases z2 : i = k
      · exact z1.symm.trans z2
      · subst z1
        exact (z2 (I.inj i k s t' h (other k t' e2 z2) hob o2 q)).elim
    · by_cases z2 : i = k
      · subst z2
        exact (z1 (I.inj j i t s (other j t e1 z1) h o1 hob q).symm).elim
      · exact I.inj j k t t' (other j t e1 z1) (other k t' e2 z2) o1 o2 q
  · have ne : x ≠ ad i := fun z => by
      subst z
      rcases nrw with q | q
      · exact n1 q
      · exact n2 q
    rw [upd_ne ne]; exact e
  · by_cases z : x = ad i
    · subst z; rw [upd_same]; simp
    · rw [upd_ne z]; exact e
  · by_cases z : x = ad i
    · subst z; rw [upd_same] at e; cases e; exact absurd rfl (ho vs)
    · rw [upd_ne z] at e; exact .inl e
  · obtain ⟨j, t, e, hkk, ea⟩ := q
    by_cases z : i = j
    · subst z
      obtain rfl := self t e
      exact .inl ⟨i, s, h, (S.shape_rw hs .own).mp hkk, ea⟩
    · exact .inl ⟨j, t, other j t e z, hkk, ea⟩
  · by_cases z : i = j
    · subst z
      obtain rfl := self t e
      refine ⟨s, h, hs.symm, rfl, fun hro => ?_⟩
      have := (S.shape_rw hs .ro).mp hro
      rcases hk with hk | hk <;> (cases s <;> simp_all [S.is])
    · exact ⟨t, other j t e z, rfl, rfl, fun _ => rfl⟩
/-! ### lists -/
/-- a list that may be changed -/
def wList (env : Env) (i : Nat) : Option (Kd × List D) := match env[i]? with
  | some (some (.l .rw xs)) => some (.rw, xs)
  | some (some (.l .own xs)) => some (.own, xs)
  | _ => none
theorem wList_some {env : Env} {i : Nat} {k : Kd} {xs : List D} (h : wList env i = some (k, xs)) : env[i]? = some (some (.l k xs)) ∧ (k = .rw ∨ k = .own) := by
  unfold wList at h
  split at h
  · rename_i xs' e; cases h; exact ⟨e, .inl rfl⟩
  · rename_i xs' e; cases h; exact ⟨e, .inr rfl⟩
  · cases h
theorem Sim.wl {env : Env} {σ : L2.St} {H F : Hp} {ad : Nat → Addr} {i : Nat} {k : Kd} {xs : List D} (I : Sim κ env σ H F ad) (h : wList env i = some (k, xs)) : σ[i]? = some (some (.ref (ad i))) ∧ ∃ vs, H (ad i) = some (.lst vs) ∧ Reps κ F vs xs := by
  obtain ⟨e, hk⟩ := wList_some h
  obtain ⟨e1, hf, vs, hv, r⟩ := I.slot i _ e
  refine ⟨e1, vs, ?_, r⟩
  rcases hk with rfl | rfl <;> exact hv
theorem Sim.wlSet {env : Env} {σ : L2.St} {H F : Hp} {ad : Nat → Addr} {i : Nat} {k : Kd} {xs ys : List D} {ws : List V} (I : Sim κ env σ H F ad) (h : wList env i = some (k, xs)) (r : Reps κ F ws ys) :
    Sim κ (env.set i (some (.l k ys))) σ (upd H (ad i) (.lst ws)) F ad ∧ Go env H F ad (env.set i (some (.l k ys))) (upd H (ad i) (.lst ws)) F ad := by
  obtain ⟨e, hk⟩ := wList_some h
  obtain ⟨e1, hf, _⟩ := I.slot i _ e
  refine I.write e (by rcases hk with rfl | rfl; exact .inl rfl; exact .inr rfl) rfl (fun _ z => by cases z) ⟨e1, hf, ws, ?_, r⟩
  rcases hk with rfl | rfl <;> exact upd_same
/-- x[i] = v on a list -/
def pSetL (i : Nat) (ix : E) (val : E) : P := fun env => (val env).bind fun v => if (peek v.2 i).isSome = true then match ix v.2 with
  | some (.int j, env2) => (wList env2 i).bind fun w => (ixN w.2.length j).map fun p => (.nx, env2.set i (some (.l w.1 (w.2.set p v.1))))
  | _ => none else none
theorem Sim.isSome {env : Env} {σ : L2.St} {H F : Hp} {ad : Nat → Addr} {i : Nat} (I : Sim κ env σ H F ad) (h : (DL.peek env i).isSome = true) : ∃ v, σ[i]? = some (some v) := by
  cases e : DL.peek env i with
  | none => rw [e] at h; cases h
  | some d => obtain ⟨v, hv, _⟩ := I.peek e; exact ⟨v, hv⟩
theorem sd_setL {i : Nat} {ix val : E} {o ie : Expr} {pos' : Pos} (ho : PE X o (tVar i)) (hi : PE X ie (tE κ ix)) (hv : PE X e (tE κ val))
    (hs : swapsWithSole [.Subscript o ie pos'] e pos.line X.env = pure false := by rfl) (hw : swappedStores [.Subscript o ie pos'] e X.env = pure none := by rfl)
    (h1 : (assignEach [.Subscript o ie pos'] X.env).map (·.2) = [assign (.Subscript o ie pos') X.env] := by rfl)
    (ha : ∀ v, assign (.Subscript o ie pos') X.env v = (do
      let ov ← holding [v] (eval o X.env)
      let iv ← holding [v, ov] (eval ie X.env)
      standAt pos'
      holding [v, ov, iv] (setItem ov iv v)
      release [v, ov, iv] []) := by intro _; rfl) : PS X (.Assign [.Subscript o ie pos'] e pos) (tS κ (pSetL i ix val)) :=
  ps_of (ps_asg hv (pg_sub ho hi set_list ha) hs hw h1) fun Ds σ H q => by
    obtain ⟨env, F, ad, oo, env', I, hm, k⟩ := q
    unfold pSetL at hm
    cases e1 : val env with
    | none => rw [e1] at hm; cases hm
    | some v =>
      obtain ⟨dv, env1⟩ := v
      rw [e1, Option.bind_some] at hm
      by_cases hps : (peek env1 i).isSome = true
      · rw [if_pos hps] at hm
        split at hm
        · rename_i j env2 e2
          cases e3 : wList env2 i with
          | none => rw [e3] at hm; cases hm
          | some w =>
            obtain ⟨kd, xs⟩ := w
            rw [e3, Option.bind_some] at hm
            cases e4 : ixN xs.length j with
            | none => rw [e4] at hm; cases hm
            | some p =>
              rw [e4] at hm
              cases hm
              refine ⟨env, F, ad, dv, env1, I, e1, fun v H1 F1 ad1 I1 g1 r1 => ?_⟩
              obtain ⟨w, hw⟩ := I1.isSome hps
              refine ⟨w, hw, env1, F1, ad1, _, env2, I1, e2, fun iv H2 F2 ad2 I2 g2 r2 => ?_⟩
              obtain ⟨hσ, vs, hH, rr⟩ := I2.wl e3
              rw [hw] at hσ
              cases hσ
              refine ⟨ad2 i, vs, j, p, rfl, r2.isInt, hH, by rw [rr.length]; exact e4, ?_⟩
              obtain ⟨I3, g3⟩ := I2.wlSet e3 (rr.set p (r1.mono g2.sub))
              exact k σ _ F2 ad2 I3 ((g1.trans g2).trans g3)
        · cases hm
      · rw [if_neg hps] at hm; cases hm
/-- a method of a list that changes it: what comes back, what stands there then -/
def eMutL (i : Nat) (g : List D → List D → Option (D × List D)) (ms : List E) : E := fun env => if (wList env i).isSome = true then (runOpds (allE ms) env).bind fun a => (getAll a.2 a.1).bind fun ds => (wList a.2 i).bind fun w => (g w.2 ds).map fun r => (r.1, a.2.set i (some (.l w.1 r.2))) else none
def MutL (κ : Kx) (r : V → List V → Hp → VK → Prop) (g : List D → List D → Option (D × List D)) : Prop := ∀ (H F : Hp) (p : Addr) (vs us : List V) (xs ds ys : List D) (d : D) (Q : VK), Sub F H → H p = some (.lst vs) → F p = none → Reps κ F vs xs → Reps κ F us ds → g xs ds = some (d, ys) →
  (∀ w ws, Rep κ F w d → Reps κ F ws ys → Q w (upd H p (.lst ws))) → r (.ref p) us H Q
theorem eMutL_some {i : Nat} {g : List D → List D → Option (D × List D)} {ms : List E} {env env' : Env} {d : D} (h : eMutL i g ms env = some (d, env')) :
    (wList env i).isSome = true ∧ ∃ ts env1 ds kd xs ys, runOpds (allE ms) env = some (ts, env1) ∧ getAll env1 ts = some ds ∧ wList env1 i = some (kd, xs) ∧ g xs ds = some (d, ys) ∧ env' = env1.set i (some (.l kd ys)) := by
  unfold eMutL at h
  by_cases h0 : (wList env i).isSome = true
  · rw [if_pos h0] at h
    cases e1 : runOpds (allE ms) env with
    | none => rw [e1] at h; cases h
    | some a =>
      rw [e1, Option.bind_some] at h
      cases e2 : getAll a.2 a.1 with
      | none => rw [e2] at h; cases h
      | some ds =>
        rw [e2, Option.bind_some] at h
        cases e3 : wList a.2 i with
        | none => rw [e3] at h; cases h
        | some w =>
          rw [e3, Option.bind_some] at h
          cases e4 : g w.2 ds with
          | none => rw [e4] at h; cases h
          | some r =>
            rw [e4] at h
            cases h
            exact ⟨h0, a.1, a.2, ds, w.1, w.2, r.2, rfl, e2, e3, e4, rfl⟩
  · rw [if_neg h0] at h; cases h
theorem mut_args {i : Nat} {g : List D → List D → Option (D × List D)} {ms : List E} {r : V → List V → Hp → VK → Prop} (hκ : κ.K = X.K) (hr : MutL κ r g) {σ : L2.St} {H : Hp} {Q : VK} (q : tE κ (eMutL i g ms) σ H Q) :
    tBM X.K "list" r (tVar i) (tOs κ (allE ms)) σ H Q := by
  obtain ⟨env, F, ad, d, env', I, hm, k⟩ := q
  obtain ⟨h0, ts, env1, ds, kd, xs, ys, h1, h2, h3, h4, rfl⟩ := eMutL_some hm
  cases e0 : wList env i with
  | none => rw [e0] at h0; cases h0
  | some w0 =>
    obtain ⟨k0, x0⟩ := w0
    obtain ⟨hσ, vs0, hv0, _⟩ := I.wl e0
    refine ⟨.ref (ad i), hσ, .inl ⟨rfl, vs0, .inl (.inl hv0)⟩, env, F, ad, ts, env1, I, h1, fun us H1 F1 ad1 I1 g1 r1 => ?_⟩
    obtain ⟨ds', q1, q2, q3⟩ := runE_reps (κ := κ) (σ := σ) (F := F1) h1
    rw [h2] at q2
    cases q2
    obtain ⟨hσ1, vs, hv, rr⟩ := I1.wl h3
    rw [hσ] at hσ1
    have ea : ad i = ad1 i := V.ref.inj (Option.some.inj (Option.some.inj hσ1))
    rw [ea]
    have hf : F1 (ad1 i) = none := (I1.objAt (wList_some h3).1 rfl).1
    refine hr H1 F1 (ad1 i) vs us xs ds ys d Q I1.sub hv hf rr (q3 us r1) h4 fun w ws rw' rws => ?_
    obtain ⟨I2, g2⟩ := I1.wlSet h3 rws
    exact k w _ F1 ad1 I2 (g1.trans g2) rw'
theorem ed_mutL {i : Nat} {nm : Str} {id : String} {g : List D → List D → Option (D × List D)} {ms : List E} {es : List Expr} {o : Expr} {apos cpos : Pos} {r : V → List V → Hp → VK → Prop} (hκ : κ.K = X.K) (hr : MutL κ r g) (slot : Slot "list" nm id) (hty : typeOf (.builtin id) = pure (.type "method_descriptor")) (hm : MtR X id r) (ho : PE X o (tVar i)) (ha : PA X (e :: es) (tOs κ (allE ms)))
    (hbase : attributeBase o nm X.env (eval o X.env) = eval o X.env := by rfl)
    (hfew : ((backTo cpos (starEach (e :: es) X.env)).all (fun x => !x.1) && (backToKw cpos (keywordEach [] X.env)).all (fun x => x.1.isSome)
      && decide ((e :: es).length + ([] : List Keyword).length + (if ([] : List Keyword).isEmpty then 0 else 1) < 30)) = true := by rfl)
    (hline : (apos.endLine == cpos.line) = true := by rfl) (hs : starEach (e :: es) X.env = (false, eval e X.env) :: starEach es X.env := by rfl) (hplain : (backTo cpos (starEach es X.env)).any (·.1) = false := by rfl) :
    PE X (.Call (.Attribute o nm apos) (e :: es) [] cpos) (tE κ (eMutL i g ms)) :=
  pe_of (pe_bm PySem.F.plainAttrs_list slot hty hm ho ha hbase hfew hline hs hplain) fun _ _ _ q => mut_args hκ hr q
theorem ed_mutL0 {i : Nat} {nm : Str} {id : String} {g : List D → List D → Option (D × List D)} {o : Expr} {apos cpos : Pos} {r : V → List V → Hp → VK → Prop} (hκ : κ.K = X.K) (hr : MutL κ r g) (slot : Slot "list" nm id) (hty : typeOf (.builtin id) = pure (.type "method_descriptor")) (hm : MtR X id r) (ho : PE X o (tVar i))
    (hbase : attributeBase o nm X.env (eval o X.env) = eval o X.env := by rfl) (hline : (apos.endLine == cpos.line) = true := by rfl) : PE X (.Call (.Attribute o nm apos) [] [] cpos) (tE κ (eMutL i g [])) :=
  pe_of (pe_bm0 PySem.F.plainAttrs_list slot hty hm ho hbase hline) fun σ H Q q => by
    obtain ⟨x, hx, ty, q2⟩ := mut_args hκ hr q
    obtain ⟨env, F, ad, ts, env', I, h1, k⟩ := q2
    cases h1
    exact ⟨x, hx, ty, k [] H F ad I Go.refl .nil⟩
def gAppend (xs : List D) : List D → Option (D × List D)
  | [d] => if xs.length < sizeLine then some (.none, xs ++ [d]) else none
  | _ => none
theorem m_append : MutL κ rAppend gAppend := by
  intro H F p vs us xs ds ys d Q hs hp hf r q h k
  unfold gAppend at h
  split at h
  · cases q with
    | cons q1 q2 =>
      cases q2
      split at h
      · rename_i hz
        cases h
        exact ⟨p, vs, _, rfl, rfl, hp, by rw [r.length]; exact hz, k _ _ .non (r.append (.one q1))⟩
      · cases h
  · cases h
def gPop (xs : List D) : List D → Option (D × List D)
  | [] => (xs[xs.length - 1]?).map fun d => (d, xs.dropLast)
  | [.int i] => if small62 i = true then (seqIndex? i xs.length).bind fun k => (xs[k]?).map fun d => (d, xs.eraseIdx k) else none
  | _ => none
def rPopAny : V → List V → Hp → VK → Prop := fun x vs H Q => rPop x vs H Q ∨ rPopAt x vs H Q
theorem mt_popAny : MtR X "list.pop" rPopAny := fun pins s σ H x xs v us Q I rx rv q => by
  rcases q with q | q
  · exact mt_pop pins s σ H x xs v us Q I rx rv q
  · exact mt_popAt pins s σ H x xs v us Q I rx rv q
theorem m_pop : MutL κ rPopAny gPop := by
  intro H F p vs us xs ds ys d Q hs hp hf r q h k
  unfold gPop at h
  split at h
  · cases q
    cases e : xs[xs.length - 1]? with
    | none => rw [e] at h; cases h
    | some z =>
      rw [e] at h
      cases h
      obtain ⟨v, hv, rv⟩ := r.get e
      exact .inl ⟨p, vs, v, rfl, rfl, hp, by rw [r.length]; exact hv, k _ _ rv r.dropLast⟩
  · rename_i i
    cases q with
    | cons q1 q2 =>
      cases q2
      obtain rfl := q1.isInt
      split at h
      · rename_i hsm
        cases e1 : seqIndex? i xs.length with
        | none => rw [e1] at h; cases h
        | some kk =>
          rw [e1, Option.bind_some] at h
          cases e2 : xs[kk]? with
          | none => rw [e2] at h; cases h
          | some z =>
            rw [e2] at h
            cases h
            obtain ⟨v, hv, rv⟩ := r.get e2
            have hb := small62_of hsm
            refine .inr ⟨p, vs, i, kk, v, rfl, rfl, hp, by omega, by omega, by rw [r.length]; exact e1, hv, k _ _ rv (r.eraseIdx kk)⟩
      · cases h
  · cases h
def rExtR : V → List V → Hp → VK → Prop := fun x vs H Q => ∃ l k xs zs, x = .ref l ∧ vs = [.ref k] ∧ H l = some (.lst xs) ∧ Rd H k (.lst zs) ∧ xs.length + zs.length ≤ sizeLine ∧ Q .non (upd H l (.lst (xs ++ zs)))
theorem mt_extR : MtM X "list.extend" rExtR := by
  intro pins s σ H x vs v us Q I rx rv h
  obtain ⟨l, k, xs, zs, rfl, rfl, hH, hB, hz, q⟩ := h
  cases rx
  obtain ⟨u, rfl, ru⟩ := rv.one
  cases ru
  obtain ⟨_, its, n, r, hl, e⟩ := I.lstM hH
  obtain ⟨_, its2, n2, r2, e2⟩ := lst_rd I hB
  have hl2 := r2.length
  have fits : its.toArray.size + its2.toArray.size ≤ sizeLine := by simp only [List.size_toArray]; omega
  have short : ¬ (!its.toArray.isEmpty && Builtin.List.listTooLong (its.toArray.size + its2.toArray.size)) = true := by
    rw [notLongL fits, Bool.and_false]
    exact Bool.false_ne_true
  have sz := sizeLine_eq
  refine call_meets PySem.F.slot_list_extend ⟨_, e, rfl⟩ PySem.F.entry_list_extend (PySem.F.args_list_extend_2 _ _)
    (PySem.AutoSeq1.list_extend_list_list_0 l its.toArray n k its2.toArray n2 short (by simp only [List.size_toArray]; omega) (by simp only [List.size_toArray] at fits ⊢; omega)) ⟨e, e2, ?_⟩
  exact ⟨.non, _, I.lset (its' := its ++ its2) hH e (by simp) (r.append r2) (by simp only [List.length_append]; omega), rfl, q⟩
def gExtend (xs : List D) : List D → Option (D × List D)
  | [.list ys] => if xs.length + ys.length ≤ sizeLine then some (.none, xs ++ ys) else none
  | _ => none
theorem m_extend : MutL κ rExtR gExtend := by
  intro H F p vs us xs ds ys d Q hs hp hf r q h k
  unfold gExtend at h
  split at h
  · cases q with
    | cons q1 q2 =>
      cases q2
      obtain ⟨m, ws, rfl, h1, r1⟩ := q1.isLst
      split at h
      · rename_i hz
        cases h
        exact ⟨p, m, vs, ws, rfl, rfl, hp, hs.rd h1, by rw [r.length, r1.length]; exact hz, k _ _ .non (r.append r1)⟩
      · cases h
  · cases h
end DL
/-! The data layer, 9: defs that hand back a new object; calls without arguments; odds. -/
namespace DL
open PySem L2 PyProof.Rows
variable {κ : Kx} {X : Cx} {e a b : Expr} {pos : Pos}
def eNotV (m : E) : E := fun env => match m env with
  | some (.bool b, env1) => some (.bool (!b), env1)
  | _ => none
theorem ed_notv {m : E} (ha : PE X a (tE κ m)) : PE X (.UnaryOp .Not a pos) (tE κ (eNotV m)) :=
  pe_of (pe_not ha) fun σ H Q q => by
    obtain ⟨env, F, ad, c, env', I, hm, k⟩ := q
    unfold eNotV at hm
    split at hm
    · rename_i b env1 e1
      cases hm
      exact ⟨env, F, ad, _, _, I, e1, fun v H' F' ad' I' g r => ⟨b, r.isBool, k _ H' F' ad' I' g (.bl _)⟩⟩
    · cases hm
/-- the promise of a def that hands back a new list or dict -/
def spN (κ : Kx) (f : Fn) (n : Nat) : Sp := fun vs H Q _ => ∃ args F ad d args', vs.length = n ∧ args.length = n ∧ Sim κ (args.map some) (vs.map some) H F ad ∧ args.all (fun s => !s.isOwn) = true ∧ f args = some (d, args') ∧
  ∀ a H' F', args'.length = n → Sim κ (args'.map some) (vs.map some) H' F' ad → Go (args.map some) H F ad (args'.map some) H' F' ad → H a = none → F' a = none → TopAt κ H' F' a d → Q (.ref a) H'
structure GblN (κ : Kx) (pr : Program) (w : World) (mg : Str → Option Value) (base : Heap) (x : Str) (ps : List Str) (k : Nat) (f : Fn) : Prop where
  ex : ∃ (a : Addr) (fd : FuncData), mg x = some (.ref a) ∧ PySem.W.keepIn κ.K (.ref a) = true ∧ Binds κ.K fd ps [] ∧ FnOk pr w κ.K mg base CX0 k a fd ps (spN κ f ps.length)
theorem fn_okN {pr : Program} {w : World} {mg : Str → Option Value} {base : Heap} {x : Str} {st : Stmt} {fa : Addr} {fd : FuncData} {N ps : List Str} {k : Nat} {m : E} {e : Expr} {pos : Pos} (Fu : L2.Fun κ.K x x st fa fd) (S : FnScope N ps (defScope st)) (hb : defBody st = [.Return (some e) pos])
    (hbody : ∀ (cdv : Value) (A : Around) (outer : List PySem.Env) (s : Shared) (H : Hp) (E : XK), Room k (A.deeper (envOfC x (defScope st) s.heap.objs.size fa cdv)) →
      PE (cxOf CX0 pr w κ.K mg base N x (defScope st) fa cdv A outer s H E).nox e (tO κ m)) :
    FnOk pr w κ.K mg base CX0 (k + 1) fa fd ps (spN κ (fnD N.length (pRet m)) ps.length) := by
  refine Fu.ok S (fun vs H Q E h => ?_) (fun cdv A outer s H vs Q E hr h => ⟨tRet (tO κ m), by rw [hb]; exact pss_one (ps_ret (hbody cdv A outer s H E hr)), ?_⟩)
  · obtain ⟨args, F, ad, d, args', h1, _⟩ := h
    exact h1
  · obtain ⟨args, F, ad, d, args', h1, h2, I0, ho, hf, k⟩ := h
    unfold fnD pRet at hf
    cases e1 : m (args.map some ++ List.replicate (N.length - args.length) none) with
    | none => rw [e1] at hf; cases hf
    | some r =>
      rw [e1] at hf
      simp only [Option.map_some] at hf
      cases e2 : backs r.2 0 args with
      | none => rw [e2] at hf; cases hf
      | some r' =>
        rw [e2] at hf
        cases hf
        refine ⟨_, F, ad, r.1, r.2, I0.start, e1, fun a H' F' ad' I' g ha hf' hn ht => ?_⟩
        obtain ⟨l, J, gg⟩ := I0.finish ho I' g e2
        exact k a H' F' (l.trans h2) J gg ha hf' ht
theorem runOpds_len : ∀ {os : List Opd} {en en' : Env} {ts : List Itm}, runOpds os en = some (ts, en') → ts.length = os.length
  | [], _, _, _, h => by cases h; rfl
  | o :: os, en, en', ts, h => by
    cases e1 : runOpd o en with
    | none => simp only [runOpds, e1] at h; cases h
    | some a =>
      cases e2 : runOpds os a.2 with
      | none => simp only [runOpds, e1, Option.bind_some, e2] at h; cases h
      | some b =>
        simp only [runOpds, e1, Option.bind_some, e2] at h
        cases h
        rw [List.length_cons, List.length_cons, runOpds_len e2]
theorem eo_call {x : Str} {ps : List Str} {k : Nat} {f : Fn} {es : List Expr} {os : List Opd} {p : Pos} (hκ : κ.K = X.K) (G : GblN κ X.prog X.w X.mg X.base x ps k f) (hr : Room k X.A) (hg : Gl X x) (ha : PA X (e :: es) (tOs κ os)) (hlen : os.length = ps.length) (hdb : (x == ("__debug__" : Str)) = false := by decide)
    (he : starEach (e :: es) X.env = (false, eval e X.env) :: starEach es X.env := by rfl) (hpl : (backTo pos (starEach es X.env)).any (·.1) = false := by rfl) : PE X (.Call (.Name x p) (e :: es) [] pos) (tO κ (eCall f os)) := by
  obtain ⟨fa, fd, h1, h2, h3, h4⟩ := G.ex
  refine pe_of (pe_call (E := E0) (dvs := []) (ds := []) (hκ ▸ h4) hr hg h1 (hκ ▸ h2) (hκ ▸ h3) .nil pass0 ha hdb he hpl) fun σ H Q q => ?_
  obtain ⟨env, F, ad, d, env', I, hm, kk⟩ := q
  obtain ⟨ts, env1, args, args', q1, q2, q3, q4, q5⟩ := eCall_some hm
  refine ⟨env, F, ad, ts, env1, I, q1, fun vs H1 F1 ad1 I1 g1 r1 => ?_⟩
  obtain ⟨hl, _⟩ := argAll_get q3
  obtain ⟨pl, _⟩ := paired_at r1
  have tl := runOpds_len q1
  rw [List.append_nil]
  refine ⟨args, F1, adOf ts ad1, d, args', by omega, by omega, I1.hand r1 q3 q2, args_all q3, q4, fun c H' F' hla J g hc hf ht => ?_⟩
  obtain ⟨I2, g2⟩ := I1.taken r1 q3 q5 J g
  refine kk c H' F' ad1 I2 (g1.trans g2) ?_ hf (fun kd q => ?_) ht
  · cases e0 : H c with
    | none => rfl
    | some ob => exact absurd hc (g1.pres c (by rw [e0]; simp))
  · obtain ⟨j, s', e, hk, ea⟩ := q
    obtain ⟨_, _, bg⟩ := giveBack_get q5
    obtain ⟨s, e0, sh, _⟩ := bg j s' e
    have ho : s'.obj = true := by cases s' <;> first | rfl | exact False.elim hk
    have ho' : s.obj = true := by cases s <;> cases s' <;> simp_all [S.shape, S.obj]
    obtain ⟨_, ob, hrd, _⟩ := I1.objAt e0 ho'
    rw [ea] at hrd
    rcases hrd with hrd | ⟨od, hrd⟩ <;> rw [hc] at hrd <;> cases hrd
/-- f() -/
theorem ed_call0 {x : Str} {k : Nat} {f : Fn} {p : Pos} (hκ : κ.K = X.K) (G : Gbl κ X.prog X.w X.mg X.base x [] k f) (hr : Room k X.A) (hg : Gl X x) (hdb : (x == ("__debug__" : Str)) = false := by decide) : PE X (.Call (.Name x p) [] [] pos) (tE κ (eCall f [])) := by
  obtain ⟨fa, fd, h1, h2, h3, h4⟩ := G.ex
  refine pe_of (pe_call0 (E := E0) (dvs := []) (ds := []) (hκ ▸ h4) hr hg h1 (hκ ▸ h2) (hκ ▸ h3) .nil pass0 hdb) fun σ H Q q => ?_
  obtain ⟨env, F, ad, d, env', I, hm, kk⟩ := q
  obtain ⟨ts, env1, args, args', q1, q2, q3, q4, q5⟩ := eCall_some hm
  refine (show spD κ f 0 [] H Q E0 from ?_)
  cases q1
  cases q3
  refine ⟨[], F, adOf [] ad, d, args', rfl, rfl, I.hand .nil rfl rfl, rfl, q4, fun v H' F' hla J g r => ?_⟩
  obtain ⟨I2, g2⟩ := I.taken .nil rfl q5 J g
  exact kk v H' F' ad I2 g2 r
/-- a, b = x, y with plain local names -/
theorem sd_par {i j : Nat} {x y : Str} {m1 m2 : E} {px py pt : Pos} {kt k2 pt2} (hc : X.calm = true) (hN : X.N.Nodup) (hi : X.N[i]? = some x) (hj : X.N[j]? = some y) (hij : i ≠ j)
    (hx : X.env.scope.names.lookup x = some .local) (hy : X.env.scope.names.lookup y = some .local) (ha : PA X [a, b] (tOs κ (allE [m1, m2])))
    (hw : swappedStores [.Tuple [.Name x px, .Name y py] kt pt] (.Tuple [a, b] k2 pt2) X.env = pure (some [x, y]))
    (hs : swapsWithSole [.Tuple [.Name x px, .Name y py] kt pt] (.Tuple [a, b] k2 pt2) pos.line X.env = pure false := by rfl) :
    PS X (.Assign [.Tuple [.Name x px, .Name y py] kt pt] (.Tuple [a, b] k2 pt2) pos) (tS κ (pSet (.t [.v i, .v j]) (eOp aTup (allE [m1, m2])))) :=
  ps_of (ps_par hc hN hi hj hij hx hy ha hw hs) fun Ds σ H q => by
    obtain ⟨env, F, ad, o, env', I, hm, k⟩ := q
    unfold pSet at hm
    cases e1 : eOp aTup (allE [m1, m2]) env with
    | none => rw [e1] at hm; cases hm
    | some r =>
      obtain ⟨d, env1⟩ := r
      rw [e1, Option.bind_some] at hm
      obtain ⟨ts, ds, h1, h2, h3⟩ := eOp_some e1
      refine ⟨env, F, ad, ts, env1, I, h1, fun vs H1 F1 ad1 I1 g1 r1 => ?_⟩
      obtain ⟨ds', q1, q2, q3⟩ := runE_reps (κ := κ) (σ := σ) (F := F1) h1
      rw [h2] at q2
      cases q2
      have rr := q3 vs r1
      unfold aTup at h3
      split at h3
      · cases h3
        cases e2 : bindPat (.t [.v i, .v j]) (.tuple ds) env1 with
        | none => rw [e2] at hm; cases hm
        | some env2 =>
          rw [e2] at hm
          cases hm
          have hl := bindPats_len (by simpa only [bindPat] using e2)
          match ds, rr, hl with
          | [d1, d2], .cons r1 (.cons r2 .nil), _ =>
            simp only [bindPat, bindPats] at e2
            by_cases z1 : i < env1.length
            · rw [if_pos z1, Option.bind_some] at e2
              by_cases z2 : j < (env1.set i (some (.d d1))).length
              · rw [if_pos z2, Option.bind_some] at e2
                cases e2
                obtain ⟨I2, g2⟩ := I1.setD r1 z1
                obtain ⟨I3, g3⟩ := I2.setD r2 z2
                exact ⟨_, _, rfl, k _ H1 F1 ad1 I3 ((g1.trans g2).trans g3)⟩
              · rw [if_neg z2] at e2; cases e2
            · rw [if_neg z1] at e2; cases e2
      · cases h3
theorem fn_none {pr : Program} {w : World} {K : PySem.W.Frag} {mg : Str → Option Value} {base : Heap} {k : Nat} {fa : Addr} {fd : FuncData} {ps : List Str} : FnOk pr w K mg base CX0 k fa fd ps (spD κ (fun _ => none) ps.length) :=
  ⟨fun vs H Q E h => by obtain ⟨args, F, ad, d, args', h1, _⟩ := h; exact h1, fun A outer s H args us vs Q E hr e0 hb r h => by obtain ⟨args, F, ad, d, args', _, _, _, _, h1, _⟩ := h; cases h1⟩
/-- more turns than any loop here takes -/
def fuel : Nat := 10 ^ 40
/-! ### names of the built-ins -/
theorem bt_len : bootBuiltins ("len" : Str) = some (.builtin "len") := by decide +kernel
theorem bt_abs : bootBuiltins ("abs" : Str) = some (.builtin "abs") := by decide +kernel
theorem bt_int : bootBuiltins ("int" : Str) = some (.type "int") := by decide +kernel
theorem bt_str : bootBuiltins ("str" : Str) = some (.type "str") := by decide +kernel
theorem bt_bool : bootBuiltins ("bool" : Str) = some (.type "bool") := by decide +kernel
theorem bt_tuple : bootBuiltins ("tuple" : Str) = some (.type "tuple") := by decide +kernel
theorem bt_list : bootBuiltins ("list" : Str) = some (.type "list") := by decide +kernel
theorem bt_dict : bootBuiltins ("dict" : Str) = some (.type "dict") := by decide +kernel
theorem bt_sum : bootBuiltins ("sum" : Str) = some (.builtin "sum") := by decide +kernel
theorem bt_all : bootBuiltins ("all" : Str) = some (.builtin "all") := by decide +kernel
theorem bt_any : bootBuiltins ("any" : Str) = some (.builtin "any") := by decide +kernel
theorem bt_min : bootBuiltins ("min" : Str) = some (.builtin "min") := by decide +kernel
theorem bt_max : bootBuiltins ("max" : Str) = some (.builtin "max") := by decide +kernel
theorem bt_sorted : bootBuiltins ("sorted" : Str) = some (.builtin "sorted") := by decide +kernel
theorem bt_isinstance : bootBuiltins ("isinstance" : Str) = some (.builtin "isinstance") := by decide +kernel
end DL
/-! The data layer, 10: chains, in, sorted, slices of any kind. -/
namespace DL
open PySem L2 PyProof.Rows
variable {κ : Kx} {X : Cx} {e a b c : Expr} {pos : Pos}
/-! ### a < b < c -/
def eChain (f g : D → D → Option D) (o1 o2 o3 : Opd) : E := fun env => (runOpd o1 env).bind fun x => (runOpd o2 x.2).bind fun y => (x.1.get y.2).bind fun dx => (y.1.get y.2).bind fun dy => match f dx dy with
  | some (.bool true) => (runOpd o3 y.2).bind fun z => (y.1.get z.2).bind fun dy' => (z.1.get z.2).bind fun dz => (g dy' dz).map fun d => (d, z.2)
  | some (.bool false) => some (.bool false, y.2)
  | _ => none
theorem chain_of {r r' : R2} {f g : D → D → Option D} {o1 o2 o3 : Opd} {σ : L2.St} {H : Hp} {Q : VK} (hr : Op2 κ r f) (hr' : Op2 κ r' g) (q : tE κ (eChain f g o1 o2 o3) σ H Q) : tChain r r' (tOpd κ o1) (tOpd κ o2) (tOpd κ o3) σ H Q := by
  obtain ⟨env, F, ad, d, env', I, hm, k⟩ := q
  unfold eChain at hm
  cases e1 : runOpd o1 env with
  | none => rw [e1] at hm; cases hm
  | some x =>
    rw [e1, Option.bind_some] at hm
    cases e2 : runOpd o2 x.2 with
    | none => rw [e2] at hm; cases hm
    | some y =>
      rw [e2, Option.bind_some] at hm
      cases e3 : x.1.get y.2 with
      | none => rw [e3] at hm; cases hm
      | some dx =>
        rw [e3, Option.bind_some] at hm
        cases e4 : y.1.get y.2 with
        | none => rw [e4] at hm; cases hm
        | some dy =>
          rw [e4, Option.bind_some] at hm
          refine ⟨env, F, ad, x.1, x.2, I, e1, fun v H1 F1 ad1 I1 g1 r1 => ⟨x.2, F1, ad1, y.1, y.2, I1, e2, fun u H2 F2 ad2 I2 g2 r2 => ?_⟩⟩
          split at hm
          · rename_i e5
            refine hr H2 F2 v u dx dy _ _ I2.sub ((r1.mono g2.sub).top I2 e3) (r2.top I2 e4) e5 fun w H3 F3 x3 hw => ⟨true, hw.isBool, ?_⟩
            rw [if_pos rfl]
            cases e6 : runOpd o3 y.2 with
            | none => rw [e6] at hm; cases hm
            | some z =>
              rw [e6, Option.bind_some] at hm
              cases e7 : y.1.get z.2 with
              | none => rw [e7] at hm; cases hm
              | some dy' =>
                rw [e7, Option.bind_some] at hm
                cases e8 : z.1.get z.2 with
                | none => rw [e8] at hm; cases hm
                | some dz =>
                  rw [e8, Option.bind_some] at hm
                  cases e9 : g dy' dz with
                  | none => rw [e9] at hm; cases hm
                  | some dd =>
                    rw [e9] at hm
                    cases hm
                    refine ⟨y.2, F3, ad2, z.1, z.2, I2.ext x3, e6, fun w' H4 F4 ad4 I4 g4 r4 => ?_⟩
                    have gg := ((g1.trans g2).trans (Go.ext x3)).trans g4
                    exact hr' H4 F4 u w' dy' dz _ _ I4.sub ((r2.mono ((Go.ext (env := y.2) (ad := ad2) x3).trans g4).sub).top I4 e7) (r4.top I4 e8) e9 fun w5 H5 F5 x5 hw5 => k w5 H5 F5 ad4 (I4.ext x5) (gg.trans (Go.ext x5)) hw5
          · rename_i e5
            cases hm
            refine hr H2 F2 v u dx dy _ _ I2.sub ((r1.mono g2.sub).top I2 e3) (r2.top I2 e4) e5 fun w H3 F3 x3 hw => ⟨false, hw.isBool, ?_⟩
            rw [if_neg Bool.false_ne_true]
            exact k _ H3 F3 ad2 (I2.ext x3) ((g1.trans g2).trans (Go.ext x3)) (.bl false)
          · cases hm
theorem ed_chain {op op' : CmpOp} {r r' : R2} {f g : D → D → Option D} {o1 o2 o3 : Opd} (ho : OpR X (compareOp op) r) (hr : Op2 κ r f) (ho' : OpR X (compareOp op') r') (hr' : Op2 κ r' g) (ha : PE X a (tOpd κ o1)) (hb : PE X b (tOpd κ o2)) (hc : PE X c (tOpd κ o3))
    (hm : lastMarks [op, op'] [b, c] = false := by with_unfolding_all rfl) : PE X (.Compare a [op, op'] [b, c] pos) (tE κ (eChain f g o1 o2 o3)) :=
  pe_of (pe_chain ho ho' ha hb hc hm) fun _ _ _ q => chain_of hr hr' q
theorem td_chain {op op' : CmpOp} {r r' : R2} {f g : D → D → Option D} {o1 o2 o3 : Opd} (ho : OpR X (compareOp op) r) (hr : Op2 κ r f) (ho' : OpR X (compareOp op') r') (hr' : Op2 κ r' g) (ha : PE X a (tOpd κ o1)) (hb : PE X b (tOpd κ o2)) (hc : PE X c (tOpd κ o3))
    (hm : lastMarks [op, op'] [b, c] = false := by with_unfolding_all rfl) : PT X (.Compare a [op, op'] [b, c] pos) (tT κ (tB (eChain f g o1 o2 o3))) :=
  pt_of (pt_chain ho ho' ha hb hc hm) fun _ _ _ q => chain_of hr hr' (tT_tB q)
/-! ### in, not in -/
def inD (x : D) : D → Option Bool
  | .list ys => if SeqAt.shaped x = true ∧ SeqAt.shaped (.list ys) = true then some (ys.any fun z => PyData.eqv z x) else none
  | .str z => match x with
    | .str ⟨s⟩ => match s.toList with
      | [c] => some (decide (c ∈ z.cps.toList))
      | _ => none
    | _ => none
  | _ => none
def aIn (x y : D) : Option D := (inD x y).map .bool
def aNotIn (x y : D) : Option D := (inD x y).map fun b => .bool (!b)
def rInA (K : PySem.W.Frag) : R2 := fun x y H Q => rInD K x y H Q ∨ ∃ (c : Nat) (z : Str), x = .str ⟨#[c]⟩ ∧ y = .str z ∧ Q (.bl (decide (c ∈ z.cps.toList))) H
def rNotInA (K : PySem.W.Frag) : R2 := fun x y H Q => rNotInD K x y H Q ∨ ∃ (c : Nat) (z : Str), x = .str ⟨#[c]⟩ ∧ y = .str z ∧ Q (.bl (!decide (c ∈ z.cps.toList))) H
theorem room65 {k : Nat} {A : Around} (r : Room k A) : A.units + 65 < cLine := by have := r.un; omega
theorem op_inA (hu : X.A.units + 65 < cLine) : OpR X (compareOp .In) (rInA X.K) := opr_or (op_inD hu) op_in_sign
theorem op_notInA (hu : X.A.units + 65 < cLine) : OpR X (compareOp .NotIn) (rNotInA X.K) := opr_or (op_notInD hu) op_notIn_sign
theorem inD_cases {x y : D} {b : Bool} (h : inD x y = some b) : (∃ ys, y = .list ys ∧ SeqAt.shaped x = true ∧ SeqAt.shaped (.list ys) = true ∧ b = ys.any fun z => PyData.eqv z x) ∨ ∃ (c : Nat) (z : Str), x = .str ⟨#[c]⟩ ∧ y = .str z ∧ b = decide (c ∈ z.cps.toList) := by
  unfold inD at h
  split at h
  · rename_i ys
    split at h
    · rename_i c
      cases h
      exact .inl ⟨ys, rfl, c.1, c.2, rfl⟩
    · cases h
  · rename_i z
    split at h
    · rename_i s
      split at h
      · rename_i c hs
        cases h
        refine .inr ⟨c, z, ?_, rfl, rfl⟩
        congr 1
        congr 1
        exact Array.ext' (by rw [hs])
      · cases h
    · cases h
  · cases h
theorem d_in : Op2 κ (rInA κ.K) aIn := by
  intro H F v u x y d Q hs rx ry h k
  unfold aIn at h
  cases e : inD x y with
  | none => rw [e] at h; cases h
  | some b =>
    rw [e] at h
    cases h
    rcases inD_cases e with ⟨ys, rfl, s1, s2, rfl⟩ | ⟨c, z, rfl, rfl, rfl⟩
    · exact .inl ⟨x, ys, Rep.dp x v (rx.rep hs (SeqAt.canLay_of_shaped s1)) (SeqAt.canLay_of_shaped s1), Rep.dp _ u (ry.rep hs (SeqAt.canLay_of_shaped s2)) (SeqAt.canLay_of_shaped s2), s1, s2, k _ _ _ (Ext.refl hs) (.bl _)⟩
    · obtain rfl := Rep.isStr rx
      obtain rfl := Rep.isStr ry
      exact .inr ⟨c, z, rfl, rfl, k _ _ _ (Ext.refl hs) (.bl _)⟩
theorem d_notIn : Op2 κ (rNotInA κ.K) aNotIn := by
  intro H F v u x y d Q hs rx ry h k
  unfold aNotIn at h
  cases e : inD x y with
  | none => rw [e] at h; cases h
  | some b =>
    rw [e] at h
    cases h
    rcases inD_cases e with ⟨ys, rfl, s1, s2, rfl⟩ | ⟨c, z, rfl, rfl, rfl⟩
    · exact .inl ⟨x, ys, Rep.dp x v (rx.rep hs (SeqAt.canLay_of_shaped s1)) (SeqAt.canLay_of_shaped s1), Rep.dp _ u (ry.rep hs (SeqAt.canLay_of_shaped s2)) (SeqAt.canLay_of_shaped s2), s1, s2, k _ _ _ (Ext.refl hs) (.bl _)⟩
    · obtain rfl := Rep.isStr rx
      obtain rfl := Rep.isStr ry
      exact .inr ⟨c, z, rfl, rfl, k _ _ _ (Ext.refl hs) (.bl _)⟩
/-! ### sorted -/
open PySem.W (alike dataLe AllAlike Sortable EachIs)
def rSortedD (K : PySem.W.Frag) : List V → Hp → VK → Prop := fun vs H Q => ∃ (a : Addr) (ps : List (V × PyData)), vs = [V.ref a] ∧ SqL K H a (ps.map (·.1)) ∧ (∀ p ∈ ps, Dp K H p.1 p.2) ∧ AllAlike (ps.map Prod.snd) ∧ Sortable (ps.map Prod.snd) ∧ (∀ p ∈ ps, p.2.depth ≤ 60) ∧
  ∀ l, H l = none → Q (.ref l) (upd H l (.lst ((ps.mergeSort (dataLe false Prod.snd)).map (·.1))))
theorem each_vals {K : PySem.W.Frag} {H : Hp} : ∀ {ps : List (V × PyData)} {us : List Value}, Vals (ps.map (·.1)) us → EachIs (fun (u : Value) (p : V × PyData) => RelV p.1 u) us ps
  | [], _, r => by cases r; exact .nil
  | p :: ps, _, r => by
    cases r with
    | cons r1 r2 => exact .cons r1 (each_vals (K := K) (H := H) r2)
theorem vals_each {K : PySem.W.Frag} {H : Hp} : ∀ {ps : List (V × PyData)} {us : List Value}, EachIs (fun (u : Value) (p : V × PyData) => RelV p.1 u) us ps → Vals (ps.map (·.1)) us
  | _, _, .nil => .nil
  | _, _, .cons r1 r2 => .cons r1 (vals_each (K := K) (H := H) r2)
theorem each_and {α β : Type} {R S : α → β → Prop} : ∀ {xs : List α} {ys : List β}, EachIs R xs ys → (∀ x y, y ∈ ys → R x y → S x y) → EachIs S xs ys
  | _, _, .nil, _ => .nil
  | _, _, .cons r q, h => .cons (h _ _ List.mem_cons_self r) (each_and q fun x y hy => h x y (List.mem_cons_of_mem _ hy))
theorem cr_sortedD (hu : X.A.units + 64 < cLine) : CallR X (.builtin "sorted") (rSortedD X.K) := by
  intro pins s σ H vs us Q I r h
  obtain ⟨a, ps, rfl, hs, hd, ha, hk, hz60, q⟩ := h
  obtain ⟨its, rv, hl, hz⟩ := I.list hs
  rw [Vals.ref1 r]
  have e := each_vals (K := X.K) (H := H) rv
  rw [List.length_map] at hz
  refine PySem.W.sorted_data (β := V × PyData) (enc := Prod.snd) (R := fun (u : Value) (p : V × PyData) => RelV p.1 u) hl.isList e (each_and e fun u p hp ru => Dp.reads I p.2 p.1 u (hd p hp) ru) ha hk hz (fun p hp => by have := hz60 p hp; omega) fun out h1 h2 => ?_
  have h3 := vals_each (K := X.K) (H := H) h2
  obtain ⟨ep, he'⟩ := PyProof.Rows.sortedAll_at s.heap its out.toArray
  have hlen : ((ps.mergeSort (dataLe false Prod.snd)).map (·.1)).length ≤ sizeLine := by
    rw [List.length_map, List.length_mergeSort]; exact hz
  exact ⟨.ref _, upd H (s.heap.objs.size + 1) (.lst _), I.laid (t' := s.toks) (fun _ _ => PyProof.Rows.sortedAll_old) (Nat.le_succ _) ⟨hlen, out, ep, h3, he'⟩, rfl, q _ (I.hok.fresh (Nat.le_succ _))⟩
def noSeq : D → Bool
  | .none => false
  | .tuple _ => false
  | _ => true
def tupS : D → Bool
  | .tuple (_ :: _) => true
  | _ => false
/-- the least first -/
abbrev dLe : D → D → Bool := dataLe false id
def aSorted : List D → Option D
  | [.list ds] => if (ds.all fun x => ds.all fun y => alike x y) = true ∧ (ds.all noSeq || ds.all tupS) = true ∧ (ds.all fun x => decide (x.depth ≤ 60)) = true ∧ (ds.all fun x => x.canLay0) = true then some (.list (ds.mergeSort dLe)) else none
  | _ => none
theorem zip_reps {F : Hp} : ∀ {vs : List V} {ds : List D}, Reps κ F vs ds → (vs.zip ds).map (·.1) = vs ∧ (vs.zip ds).map Prod.snd = ds ∧ ∀ p ∈ vs.zip ds, Rep κ F p.1 p.2
  | _, _, .nil => ⟨rfl, rfl, fun _ h => by cases h⟩
  | _, _, .cons r q => by
    obtain ⟨h1, h2, h3⟩ := zip_reps q
    refine ⟨by simp only [List.zip_cons_cons, List.map_cons, h1], by simp only [List.zip_cons_cons, List.map_cons, h2], fun p hp => ?_⟩
    rcases List.mem_cons.mp hp with rfl | hp
    · exact r
    · exact h3 p hp
theorem reps_pairs {F : Hp} : ∀ {ps : List (V × PyData)}, (∀ p ∈ ps, Rep κ F p.1 p.2) → Reps κ F (ps.map (·.1)) (ps.map Prod.snd)
  | [], _ => .nil
  | p :: ps, h => .cons (h p List.mem_cons_self) (reps_pairs fun q hq => h q (List.mem_cons_of_mem _ hq))
theorem sortable_of {ds : List D} (h : (ds.all noSeq || ds.all tupS) = true) : Sortable ds := by
  rcases Bool.or_eq_true _ _ ▸ h with h | h
  · refine .inr fun d hd => ?_
    have := List.all_eq_true.mp h d hd
    cases d <;> simp [noSeq] at this ⊢
  · refine .inl fun d hd => ?_
    have := List.all_eq_true.mp h d hd
    cases d with
    | tuple xs => cases xs with
      | nil => simp [tupS] at this
      | cons x r => exact ⟨x, r, rfl⟩
    | _ => simp [tupS] at this
theorem o_sorted : OpNo κ (rSortedD κ.K) aSorted := by
  intro H F vs ds d Q hs hp hf k
  unfold aSorted at hf
  split at hf
  · rename_i xs
    obtain ⟨v, rfl, p, ws, rfl, h1, r1⟩ := Paired.one' hp
    split at hf
    · rename_i c
      cases hf
      obtain ⟨z1, z2, z3⟩ := zip_reps r1
      refine ⟨p, ws.zip xs, rfl, by rw [z1]; exact .inl h1, fun q hq => ?_, ?_, ?_, fun q hq => ?_, fun l hl => ?_⟩
      · have hx : q.2 ∈ xs := by rw [← z2]; exact List.mem_map.mpr ⟨q, hq, rfl⟩
        exact Rep.dp q.2 q.1 ((z3 q hq).mono hs) (List.all_eq_true.mp c.2.2.2 _ hx)
      · rw [z2]
        intro x hx y hy
        exact List.all_eq_true.mp (List.all_eq_true.mp c.1 x hx) y hy
      · rw [z2]; exact sortable_of c.2.1
      · have hx : q.2 ∈ xs := by rw [← z2]; exact List.mem_map.mpr ⟨q, hq, rfl⟩
        exact of_decide_eq_true (List.all_eq_true.mp c.2.2.1 _ hx)
      · have e : ((ws.zip xs).mergeSort (dataLe false Prod.snd)).map Prod.snd = xs.mergeSort dLe := by
          exact (PySem.W.sort_maps (r := dataLe false Prod.snd) (s := dLe) (Prod.snd : V × PyData → PyData) (fun _ _ _ _ => rfl)).trans (by rw [z2])
        refine fin_lstO hs hl (reps_pairs fun q hq => z3 q (List.mem_mergeSort.mp hq)) (by rw [e]) k
    · cases hf
  · cases hf
/-! ### slices -/
def aSlA (lo hi : Option Int) : D → Option D
  | .list xs => some (.list (cutD xs lo hi))
  | .tuple xs => some (.tuple (cutD xs lo hi))
  | .str z => if z.length ≤ sizeLine then some (.str (cutS z lo hi)) else none
  | _ => none
def rSlAny (K : PySem.W.Frag) : V → Option Int → Option Int → Hp → VK → Prop := fun x lo hi H Q => rSlL K x lo hi H Q ∨ (rSlA K x lo hi H Q ∨ rSlS x lo hi H Q)
theorem sl_any : SlR X (rSlAny X.K) := SlR.or sl_list (SlR.or sl_tupA sl_str)
theorem d_slA : OpSl κ (rSlAny κ.K) aSlA := by
  intro H F v lo hi x d Q hs rx hf k
  cases x with
  | list xs =>
    cases hf
    obtain ⟨l, vs, rfl, h1, r1⟩ := rx
    exact .inl ⟨l, vs, rfl, .inl h1, fun p hp => fin_lst hs hp (cut_rep r1 lo hi) rfl k⟩
  | tuple xs =>
    cases hf
    obtain ⟨l, vs, rfl, h1, r1⟩ := rx
    refine .inr (.inl ⟨l, vs, rfl, h1.sqT, fun hc => ?_, fun _ p hp => fin_tup hs hp (cut_rep r1 lo hi) rfl k⟩)
    obtain ⟨F', x, r⟩ := tup_data hs h1 r1
    have e : cutD xs lo hi = xs := by
      rw [r1.length] at hc
      unfold cutD
      rw [hc.1, hc.2]
      simp
    rw [e] at k
    exact k _ _ _ x r
  | str z =>
    change (if z.length ≤ sizeLine then some (PyData.str (cutS z lo hi)) else none) = some d at hf
    split at hf
    · rename_i hz
      cases hf
      obtain rfl := Rep.isStr rx
      exact .inr (.inr ⟨z, rfl, hz, k _ _ _ (Ext.refl hs) (.str _)⟩)
    · cases hf
  | _ => cases hf
end DL
/-! The data layer, 11: a new list so many times. -/
namespace DL
open PySem L2 PyProof.Rows
variable {κ : Kx} {X : Cx} {e a b c : Expr} {pos : Pos}
def eRep (m n : E) : E := fun env => match m env with
  | some (.list xs, env1) => match n env1 with
    | some (.int k, env2) => if k.natAbs < 1000000 ∧ xs.length * k.toNat ≤ sizeLine then some (.list (List.replicate k.toNat xs).flatten, env2) else none
    | _ => none
  | _ => none
theorem eRep_some {m n : E} {env env' : Env} {d : D} (h : eRep m n env = some (d, env')) : ∃ xs env1 k, m env = some (.list xs, env1) ∧ n env1 = some (.int k, env') ∧ k.natAbs < 1000000 ∧ xs.length * k.toNat ≤ sizeLine ∧ d = .list (List.replicate k.toNat xs).flatten := by
  unfold eRep at h
  split at h
  · rename_i xs env1 e1
    split at h
    · rename_i k env2 e2
      split at h
      · rename_i c
        cases h
        exact ⟨xs, env1, k, e1, e2, c.1, c.2, rfl⟩
      · cases h
    · cases h
  · cases h
theorem rep_args {m n : E} {σ : L2.St} {H : Hp} {Q : VK} (q : tE κ (eRep m n) σ H Q) : tOp rRep (tO κ m) (tE κ n) σ H Q := by
  obtain ⟨env, F, ad, d, env', I, hm, k⟩ := q
  obtain ⟨xs, env1, i, h1, h2, h3, h4, rfl⟩ := eRep_some hm
  refine ⟨env, F, ad, _, env1, I, h1, fun p H1 F1 ad1 I1 g1 hp hf hn ht => ?_⟩
  obtain ⟨vs, hv, rv⟩ := ht
  refine ⟨env1, F1, ad1, _, env', I1, h2, fun u H2 F2 ad2 I2 g2 r2 => ?_⟩
  obtain rfl := r2.isInt
  have hk : H2 p = some (.lst vs) := g2.keep p _ hv (hn .rw) (hn .own)
  refine ⟨p, i, vs, rfl, rfl, hk, by omega, by omega, by rw [rv.length]; exact h4, fun l hl => ?_⟩
  refine fin_lst (d := .list (List.replicate i.toNat xs).flatten) I2.sub hl ((rv.mono g2.sub).flatten_rep _) rfl fun w H3 F3 x hw => k w H3 F3 ad2 (I2.ext x) ((g1.trans g2).trans (Go.ext x)) hw
theorem ed_rep {m n : E} (ha : PE X a (tO κ m)) (hb : PE X b (tE κ n)) : PE X (.BinOp a .Mult b pos) (tE κ (eRep m n)) := pe_of (pe_op op_rep ha hb) fun _ _ _ q => rep_args q
@[simp] theorem ev_rep {m n : E} {env : Env} : eRep m n env = match m env with
  | some (.list xs, env1) => match n env1 with
    | some (.int k, env2) => if k.natAbs < 1000000 ∧ xs.length * k.toNat ≤ sizeLine then some (.list (List.replicate k.toNat xs).flatten, env2) else none
    | _ => none
  | _ => none := rfl
end DL
/-! The data layer, 12: the least, the greatest; where an item stands; numbers as texts; lists turned round; ranges as lists; texts in order. -/
namespace DL
open PySem L2 PyProof.Rows
variable {κ : Kx} {X : Cx} {e a b c : Expr} {pos : Pos}
/-! ### texts in order -/
def aLtA : D → D → Option D
  | .int i, .int j => some (.bool (decide (i < j)))
  | .str i, .str j => some (.bool (decide (i.cps.toList < j.cps.toList)))
  | _, _ => none
def rLtA : R2 := fun x y H Q => rI0 (fun i j => .bl (decide (i < j))) x y H Q ∨ ∃ i j, x = .str i ∧ y = .str j ∧ Q (.bl (decide (i.cps.toList < j.cps.toList))) H
theorem op_ltA : OpR X (compareOp .Lt) rLtA := opr_or op_lt op_lt_str
theorem d_ltA : Op2 κ rLtA aLtA := by
  intro H F v u x y d Q hs rx ry h k
  cases x with
  | int i =>
    cases y with
    | int j =>
      cases h
      obtain rfl := Rep.isInt rx
      obtain rfl := Rep.isInt ry
      exact .inl ⟨i, j, rfl, rfl, k _ _ _ (Ext.refl hs) (.bl _)⟩
    | _ => cases h
  | str i =>
    cases y with
    | str j =>
      cases h
      obtain rfl := Rep.isStr rx
      obtain rfl := Rep.isStr ry
      exact .inr ⟨i, j, rfl, rfl, k _ _ _ (Ext.refl hs) (.bl _)⟩
    | _ => cases h
  | _ => cases h
/-! ### the least, the greatest of a list -/
open PySem.W (alike)
theorem dpAll_of {K : PySem.W.Frag} {H : Hp} : ∀ {ps : List (V × PyData)}, (∀ p ∈ ps, Dp K H p.1 p.2) → DpAll K H (ps.map (·.1)) (ps.map Prod.snd)
  | [], _ => .nil
  | p :: ps, h => .cons (h p List.mem_cons_self) (dpAll_of fun q hq => h q (List.mem_cons_of_mem _ hq))
def rBest (K : PySem.W.Frag) (f : D → List D → D) : List V → Hp → VK → Prop := fun vs H Q => ∃ (a : Addr) (ps : List (V × PyData)) (x : PyData) (xs : List PyData), vs = [V.ref a] ∧ SqL K H a (ps.map (·.1)) ∧ (∀ p ∈ ps, Dp K H p.1 p.2) ∧ ps.map Prod.snd = x :: xs ∧ PySem.W.AlikeAll (x :: xs) ∧ PyData.depthAll (x :: xs) ≤ 60 ∧
  ∀ p ∈ ps, p.2 = f x xs → Q p.1 H
theorem fold_mem (f : D → D → Bool) : ∀ (xs : List D) (x : D), xs.foldl (fun a y => if f y a then y else a) x ∈ x :: xs
  | [], x => by simp
  | y :: ys, x => by
    rw [List.foldl_cons]
    by_cases h : f y x = true
    · rw [if_pos h]
      exact List.mem_cons_of_mem _ (fold_mem f ys y)
    · rw [if_neg h]
      rcases List.mem_cons.mp (fold_mem f ys x) with e | e
      · rw [e]; exact List.mem_cons_self
      · exact List.mem_cons_of_mem _ (List.mem_cons_of_mem _ e)
theorem best_at {s : Shared} {ps : List (V × PyData)} {its : List Value} {x : PyData} {xs : List PyData} {as : List Addr} {i : Nat} {v : Value} {h' : Heap} {m : PyData} {bs : List Addr}
    (hv : Vals (ps.map (·.1)) its) (hp : ps.map Prod.snd = x :: xs) (hr : ReadsAll s.heap its (x :: xs) as) (ha : PySem.W.AlikeAll (x :: xs)) (hi : its.toArray[i]? = some v) (rm : Reads h' v m bs) (hm : m ∈ x :: xs) (hk : ∀ b o, s.heap.get? b = some o → h'.get? b = some o) :
    ∃ p ∈ ps, RelV p.1 v ∧ p.2 = m := by
  have hi' : its[i]? = some v := by simpa using hi
  obtain ⟨cs, rd, h1, h2, _⟩ := PySem.W.readsAll_at hr i v hi'
  have hl : ps.length = (x :: xs).length := by rw [← hp, List.length_map]
  have hip : i < ps.length := by omega
  refine ⟨ps[i], List.getElem_mem hip, ?_, ?_⟩
  · obtain ⟨w, e1, e2⟩ := (paired_at hv).2 i v hi'
    rw [List.getElem?_map, List.getElem?_eq_getElem hip] at e1
    cases e1
    exact e2
  · have e : (x :: xs).getD i .none = (ps[i]).2 := by
      rw [← hp, List.getD_eq_getElem?_getD, List.getElem?_map, List.getElem?_eq_getElem hip]
      rfl
    rw [e] at rd h2
    exact PySem.W.alike_unique _ _ _ _ _ (ha.1 _ h2 _ hm) (PyProof.Rows.Reads.keeps hk rd) rm
theorem cr_minA (hc : X.calm = true) (hu : X.A.units + 64 < cLine) : CallR X (.builtin "min") (rBest X.K PySem.W.minD) := by
  intro pins s σ H vs us Q I r h
  obtain ⟨a, ps, x, xs, rfl, hs, hd, hp, ha, hz, q⟩ := h
  obtain ⟨its, rv, hl, _⟩ := I.list hs
  rw [Vals.ref1 r]
  have hdp := dpAll_of hd
  rw [hp] at hdp
  obtain ⟨as, hr⟩ := Dp.readsAll I _ _ _ hdp rv
  refine PySem.W.min_list_data (I.ok.hd hc) hl.isList (by simpa using hr) ha (by omega) fun i v h' tk bs hi rm hk => ?_
  obtain ⟨p, hpm, rel, e⟩ := best_at rv hp hr ha hi rm (fold_mem PySem.W.dataLt xs x) hk
  exact ⟨p.1, H, I.kept hk, rel, q p hpm e⟩
theorem cr_maxA (hc : X.calm = true) (hu : X.A.units + 64 < cLine) : CallR X (.builtin "max") (rBest X.K PySem.W.maxD) := by
  intro pins s σ H vs us Q I r h
  obtain ⟨a, ps, x, xs, rfl, hs, hd, hp, ha, hz, q⟩ := h
  obtain ⟨its, rv, hl, _⟩ := I.list hs
  rw [Vals.ref1 r]
  have hdp := dpAll_of hd
  rw [hp] at hdp
  obtain ⟨as, hr⟩ := Dp.readsAll I _ _ _ hdp rv
  refine PySem.W.max_list_data (I.ok.hd hc) hl.isList (by simpa using hr) ha (by omega) fun i v h' tk bs hi rm hk => ?_
  obtain ⟨p, hpm, rel, e⟩ := best_at rv hp hr ha hi rm (fold_mem (fun y z => PySem.W.dataLt z y) xs x) hk
  exact ⟨p.1, H, I.kept hk, rel, q p hpm e⟩
def bestOk (xs : List D) : Bool := (xs.all fun x => xs.all fun y => alike x y) && (xs.all fun x => noNone x) && decide (PyData.depthAll xs ≤ 60) && PyData.canLayAll0 xs
where noNone : D → Bool
  | .none => false
  | _ => true
def aBest (f : D → List D → D) : List D → Option D
  | [.list (x :: xs)] => if bestOk (x :: xs) = true then some (f x xs) else none
  | _ => none
def aMin : List D → Option D
  | [.int i, .int j] => some (.int (if j < i then j else i))
  | ds => aBest PySem.W.minD ds
def aMax : List D → Option D
  | [.int i, .int j] => some (.int (if j > i then j else i))
  | ds => aBest PySem.W.maxD ds
def rMin2 : List V → Hp → VK → Prop := fun xs H Q => ∃ i j, xs = [.int i, .int j] ∧ Q (.int (if j < i then j else i)) H
def rMax2 : List V → Hp → VK → Prop := fun xs H Q => ∃ i j, xs = [.int i, .int j] ∧ Q (.int (if j > i then j else i)) H
theorem call_minA (hc : X.calm = true) (hu : X.A.units + 64 < cLine) : CallR X (.builtin "min") (fun xs H Q => rMin2 xs H Q ∨ rBest X.K PySem.W.minD xs H Q) := cr_or (call_min2 hc) (cr_minA hc hu)
theorem call_maxA (hc : X.calm = true) (hu : X.A.units + 64 < cLine) : CallR X (.builtin "max") (fun xs H Q => rMax2 xs H Q ∨ rBest X.K PySem.W.maxD xs H Q) := cr_or (call_max2 hc) (cr_maxA hc hu)
theorem n_best {f : D → List D → D} : OpN κ (rBest κ.K f) (aBest f) := by
  intro H F vs ds d Q hs hp hf k
  unfold aBest at hf
  split at hf
  · rename_i x xs
    obtain ⟨v, rfl, p, ws, rfl, h1, r1⟩ := Paired.one' hp
    split at hf
    · rename_i c
      cases hf
      unfold bestOk at c
      simp only [Bool.and_eq_true] at c
      obtain ⟨⟨⟨c1, c2⟩, c3⟩, c4⟩ := c
      obtain ⟨z1, z2, z3⟩ := zip_reps r1
      have lay : ∀ d ∈ x :: xs, d.canLay0 = true := by
        have : ∀ l : List D, PyData.canLayAll0 l = true → ∀ d ∈ l, d.canLay0 = true := by
          intro l
          induction l with
          | nil => intro _ d hd; cases hd
          | cons y l ih =>
            intro hl d hd
            simp only [PyData.canLayAll0, Bool.and_eq_true] at hl
            rcases List.mem_cons.mp hd with rfl | hd
            · exact hl.1
            · exact ih hl.2 d hd
        exact this _ c4
      refine ⟨p, ws.zip (x :: xs), x, xs, rfl, by rw [z1]; exact .inl h1, fun q hq => ?_, z2, ⟨fun a ha b hb => List.all_eq_true.mp (List.all_eq_true.mp c1 a ha) b hb, fun a ha e => ?_⟩, of_decide_eq_true c3, fun q hq e => ?_⟩
      · have hx : q.2 ∈ x :: xs := by rw [← z2]; exact List.mem_map.mpr ⟨q, hq, rfl⟩
        exact Rep.dp q.2 q.1 ((z3 q hq).mono hs) (lay _ hx)
      · have := List.all_eq_true.mp c2 a ha
        rw [e] at this
        cases this
      · rw [← e] at k
        exact k _ _ _ (Ext.refl hs) (z3 q hq)
    · cases hf
  · cases hf
theorem n_min : OpN κ (fun xs H Q => rMin2 xs H Q ∨ rBest κ.K PySem.W.minD xs H Q) aMin := by
  intro H F vs ds d Q hs hp hf k
  unfold aMin at hf
  split at hf
  · obtain ⟨v, w, rfl, r1, r2⟩ := Paired.two' hp
    obtain rfl := Rep.isInt r1
    obtain rfl := Rep.isInt r2
    cases hf
    exact .inl ⟨_, _, rfl, k _ _ _ (Ext.refl hs) (.int _)⟩
  · exact .inr (n_best H F vs ds d Q hs hp hf k)
theorem n_max : OpN κ (fun xs H Q => rMax2 xs H Q ∨ rBest κ.K PySem.W.maxD xs H Q) aMax := by
  intro H F vs ds d Q hs hp hf k
  unfold aMax at hf
  split at hf
  · obtain ⟨v, w, rfl, r1, r2⟩ := Paired.two' hp
    obtain rfl := Rep.isInt r1
    obtain rfl := Rep.isInt r2
    cases hf
    exact .inl ⟨_, _, rfl, k _ _ _ (Ext.refl hs) (.int _)⟩
  · exact .inr (n_best H F vs ds d Q hs hp hf k)
/-! ### str of a number -/
def aStr : List D → Option D
  | [.int i] => if i.natAbs < 2 ^ 1000 then some (.str (toString i)) else none
  | _ => none
def rStrI : List V → Hp → VK → Prop := fun xs H Q => ∃ i, xs = [.int i] ∧ i.natAbs.log2 < 1920 ∧ Q (.str (toString i)) H
theorem n_str : OpN κ rStrI aStr := by
  intro H F vs ds d Q hs hp hf k
  unfold aStr at hf
  split at hf
  · rename_i i
    obtain ⟨v, rfl, r1⟩ := Paired.one' hp
    obtain rfl := Rep.isInt r1
    split at hf
    · rename_i c
      cases hf
      refine ⟨_, rfl, ?_, k _ _ _ (Ext.refl hs) (.str _)⟩
      by_cases z : i.natAbs = 0
      · rw [z]; decide
      · exact Nat.lt_trans ((Nat.log2_lt z).mpr c) (by decide)
    · cases hf
  · cases hf
/-! ### methods that only look -/
def eMet (f : D → List D → Option D) (o : Opd) (ms : List E) : E := fun env => (runOpd o env).bind fun a => if (match a.1.get a.2 with | some (.list _) => true | _ => false) = true then (runOpds (allE ms) a.2).bind fun b => (a.1.get b.2).bind fun x => (getAll b.2 b.1).bind fun ds => (f x ds).map fun d => (d, b.2) else none
theorem eMet_some {f : D → List D → Option D} {o : Opd} {ms : List E} {env env' : Env} {d : D} (h : eMet f o ms env = some (d, env')) :
    ∃ t env1 xs ts x ds, runOpd o env = some (t, env1) ∧ t.get env1 = some (.list xs) ∧ runOpds (allE ms) env1 = some (ts, env') ∧ t.get env' = some x ∧ getAll env' ts = some ds ∧ f x ds = some d := by
  unfold eMet at h
  cases e1 : runOpd o env with
  | none => rw [e1] at h; cases h
  | some a =>
    rw [e1, Option.bind_some] at h
    split at h
    · rename_i hc
      cases e2 : runOpds (allE ms) a.2 with
      | none => rw [e2] at h; cases h
      | some b =>
        rw [e2, Option.bind_some] at h
        cases e3 : a.1.get b.2 with
        | none => rw [e3] at h; cases h
        | some x =>
          rw [e3, Option.bind_some] at h
          cases e4 : getAll b.2 b.1 with
          | none => rw [e4] at h; cases h
          | some ds =>
            rw [e4, Option.bind_some] at h
            cases e5 : f x ds with
            | none => rw [e5] at h; cases h
            | some d' =>
              rw [e5] at h
              cases h
              cases e6 : a.1.get a.2 with
              | none => rw [e6] at hc; cases hc
              | some y =>
                rw [e6] at hc
                cases y with
                | list xs => exact ⟨a.1, a.2, xs, b.1, x, ds, rfl, e6, e2, e3, e4, e5⟩
                | _ => cases hc
    · cases h
def MetR (κ : Kx) (r : V → List V → Hp → VK → Prop) (f : D → List D → Option D) : Prop := ∀ (H F : Hp) (v : V) (us : List V) (x d : D) (ds : List D) (Q : VK), Sub F H → RepP κ H F v x → Reps κ F us ds → f x ds = some d →
  (∀ w H' F', Ext H F H' F' → Rep κ F' w d → Q w H') → r v us H Q
theorem met_args {f : D → List D → Option D} {o : Opd} {ms : List E} {r : V → List V → Hp → VK → Prop} (hκ : κ.K = X.K) (hr : MetR κ r f) {σ : L2.St} {H : Hp} {Q : VK} (q : tE κ (eMet f o ms) σ H Q) :
    tBM X.K "list" r (tOpd κ o) (tOs κ (allE ms)) σ H Q := by
  obtain ⟨env, F, ad, d, env', I, hm, k⟩ := q
  obtain ⟨t, env1, xs, ts, x, ds, h1, h2, h3, h4, h5, h6⟩ := eMet_some hm
  refine ⟨env, F, ad, t, env1, I, h1, fun v H1 F1 ad1 I1 g1 r1 => ?_⟩
  obtain ⟨p, vs, rfl, hp, _⟩ := r1.top I1 h2
  refine ⟨.inl ⟨rfl, vs, .inl hp⟩, env1, F1, ad1, ts, env', I1, h3, fun us H2 F2 ad2 I2 g2 r2 => ?_⟩
  obtain ⟨ds', q1, q2, q3⟩ := runE_reps (κ := κ) (σ := σ) (F := F2) h3
  rw [h5] at q2
  cases q2
  exact hr H2 F2 (.ref p) us x d ds Q I2.sub ((r1.mono g2.sub).top I2 h4) (q3 us r2) h6 fun w H3 F3 x3 hw => k w H3 F3 ad2 (I2.ext x3) ((g1.trans g2).trans (Go.ext x3)) hw
theorem ed_met {nm : Str} {id : String} {f : D → List D → Option D} {o : Opd} {ms : List E} {es : List Expr} {oe : Expr} {apos cpos : Pos} {r : V → List V → Hp → VK → Prop} (hκ : κ.K = X.K) (hr : MetR κ r f) (slot : Slot "list" nm id) (hty : typeOf (.builtin id) = pure (.type "method_descriptor")) (hm : MtR X id r) (ho : PE X oe (tOpd κ o)) (ha : PA X (e :: es) (tOs κ (allE ms)))
    (hbase : attributeBase oe nm X.env (eval oe X.env) = eval oe X.env := by rfl)
    (hfew : ((backTo cpos (starEach (e :: es) X.env)).all (fun x => !x.1) && (backToKw cpos (keywordEach [] X.env)).all (fun x => x.1.isSome)
      && decide ((e :: es).length + ([] : List Keyword).length + (if ([] : List Keyword).isEmpty then 0 else 1) < 30)) = true := by rfl)
    (hline : (apos.endLine == cpos.line) = true := by rfl) (hs : starEach (e :: es) X.env = (false, eval e X.env) :: starEach es X.env := by rfl) (hplain : (backTo cpos (starEach es X.env)).any (·.1) = false := by rfl) :
    PE X (.Call (.Attribute oe nm apos) (e :: es) [] cpos) (tE κ (eMet f o ms)) :=
  pe_of (pe_bm PySem.F.plainAttrs_list slot hty hm ho ha hbase hfew hline hs hplain) fun _ _ _ q => met_args hκ hr q
/-- the first place at which something stands -/
def idxD (d : D) : List D → Option Nat
  | [] => none
  | z :: zs => if PyData.eqv z d = true then some 0 else (idxD d zs).map (· + 1)
theorem idxD_some {d : D} : ∀ {ds : List D} {j : Nat}, idxD d ds = some j → ∃ z, ds[j]? = some z ∧ PyData.eqv z d = true ∧ ∀ (m : Nat) (z' : D), m < j → ds[m]? = some z' → PyData.eqv z' d = false
  | [], j, h => by cases h
  | z :: zs, j, h => by
    unfold idxD at h
    split at h
    · rename_i hz
      cases h
      exact ⟨z, rfl, hz, fun m z' hm => absurd hm (Nat.not_lt_zero _)⟩
    · rename_i hz
      cases e : idxD d zs with
      | none => rw [e] at h; cases h
      | some i =>
        rw [e] at h
        cases h
        obtain ⟨w, h1, h2, h3⟩ := idxD_some e
        refine ⟨w, by simpa using h1, h2, fun m z' hm hz' => ?_⟩
        cases m with
        | zero =>
          simp at hz'
          subst hz'
          simpa using hz
        | succ m => exact h3 m z' (Nat.lt_of_succ_lt_succ hm) (by simpa using hz')
def aIndex (x : D) : List D → Option D
  | [d] => match x with
    | .list ds => if SeqAt.shaped (.list ds) = true ∧ SeqAt.shaped d = true then (idxD d ds).map fun j => .int (j : Nat) else none
    | _ => none
  | _ => none
theorem m_index : MetR κ (rIndexD κ.K) aIndex := by
  intro H F v us x d ds Q hs rx rus hf k
  unfold aIndex at hf
  split at hf
  · rename_i dd
    split at hf
    · rename_i xs
      split at hf
      · rename_i c
        cases e : idxD dd xs with
        | none => rw [e] at hf; cases hf
        | some j =>
          rw [e] at hf
          cases hf
          cases rus with
          | cons r1 r2 =>
            cases r2
            obtain ⟨z, h1, h2, h3⟩ := idxD_some e
            have hx := Rep.dp _ v (rx.rep hs (SeqAt.canLay_of_shaped c.1)) (SeqAt.canLay_of_shaped c.1)
            obtain ⟨p, vs, rfl, _⟩ := rx
            exact ⟨p, _, dd, xs, j, z, rfl, rfl, hx, Rep.dp _ _ (r1.mono hs) (SeqAt.canLay_of_shaped c.2), c.1, c.2, h1, h2, h3, k _ _ _ (Ext.refl hs) (.int _)⟩
      · cases hf
    · cases hf
  · cases hf
/-! ### lists turned round -/
def eRev (m : E) : E := fun env => match m env with
  | some (.list xs, env1) => some (.list xs.reverse, env1)
  | _ => none
theorem rev_args {K : PySem.W.Frag} (hκ : κ.K = K) {m : E} {σ : L2.St} {H : Hp} {Q : VK} (q : tO κ (eRev m) σ H Q) : tRevL K (tE κ m) σ H Q := by
  obtain ⟨env, F, ad, d, env', I, hm, k⟩ := q
  unfold eRev at hm
  split at hm
  · rename_i xs env1 e1
    cases hm
    refine ⟨env, F, ad, _, _, I, e1, fun v H1 F1 ad1 I1 g1 r1 => ?_⟩
    obtain ⟨p, vs, rfl, h1, h2⟩ := r1.isLst
    refine ⟨p, vs, rfl, .inl (I1.sub.rd h1), fun l hl => ?_⟩
    refine fin_lstO I1.sub hl h2.reverse rfl fun a H2 F2 x ha hf ht => k a H2 F2 ad1 (I1.ext x) (g1.trans (Go.ext x)) ?_ hf (fun kd q => I1.fresh ha kd q) ht
    cases e : H a with
    | none => rfl
    | some o => exact absurd ha (g1.pres a (by rw [e]; simp))
  · cases hm
theorem eo_rev {m : E} {k : Nat} {p1 p2 p3 : Pos} (hκ : κ.K = X.K) (he : PE X e (tE κ m)) : PE X (.Subscript e (.Slice none none (some (.UnaryOp .USub (.Constant (.int 1) k p1) p2)) p3) pos) (tO κ (eRev m)) :=
  pe_of (pe_revL he) fun _ _ _ q => rev_args hκ q
/-! ### ranges as lists -/
def eLrg (m n : E) : E := fun env => match m env with
  | some (.int i, env1) => match n env1 with
    | some (.int j, env2) => if i.natAbs < 10000000 ∧ j.natAbs < 10000000 ∧ (j - i).toNat ≤ 1000000 then some (.list (upTo i (j - i).toNat), env2) else none
    | _ => none
  | _ => none
theorem rgV_reps {F : Hp} (i : Int) : ∀ n : Nat, Reps κ F ((List.range n).map fun k => V.int (i + (k : Nat))) (upTo i n) := fun n => by
  refine Reps.of_get (by rw [List.length_map, List.length_range, upTo_length]) fun k v d h1 h2 => ?_
  have hk : k < n := by
    have := (List.getElem?_eq_some_iff.mp h2).1
    rwa [upTo_length] at this
  rw [upTo_get n i k hk] at h2
  rw [List.getElem?_map, List.getElem?_range hk] at h1
  cases h1
  cases h2
  exact .int _
theorem lrg1_args {n : E} {σ : L2.St} {H : Hp} {Q : VK} (q : tO κ (eLrg (eK (.int 0)) n) σ H Q) : tLstRg (tRg1 (tE κ n)) σ H Q := by
  obtain ⟨env, F, ad, d, env', I, hm, k⟩ := q
  unfold eLrg at hm
  simp only [eK] at hm
  split at hm
  · rename_i j env2 e1
    split at hm
    · rename_i c
      cases hm
      refine ⟨env, F, ad, _, _, I, e1, fun v H1 F1 ad1 I1 g1 r1 => ?_⟩
      obtain rfl := r1.isInt
      refine ⟨j, rfl, ⟨by omega, by omega, by omega, by omega, by omega⟩, fun l hl => ?_⟩
      refine fin_lstO I1.sub hl (rgV_reps 0 _) rfl fun a H2 F2 x ha hf ht => k a H2 F2 ad1 (I1.ext x) (g1.trans (Go.ext x)) ?_ hf (fun kd q => I1.fresh ha kd q) ht
      cases e : H a with
      | none => rfl
      | some o => exact absurd ha (g1.pres a (by rw [e]; simp))
    · cases hm
  · cases hm
theorem lrg2_args {m n : E} {σ : L2.St} {H : Hp} {Q : VK} (q : tO κ (eLrg m n) σ H Q) : tLstRg (tRg2 (tE κ m) (tE κ n)) σ H Q := by
  obtain ⟨env, F, ad, d, env', I, hm, k⟩ := q
  unfold eLrg at hm
  split at hm
  · rename_i i env1 e0
    split at hm
    · rename_i j env2 e1
      split at hm
      · rename_i c
        cases hm
        refine ⟨env, F, ad, _, _, I, e0, fun v H1 F1 ad1 I1 g1 r1 => ?_⟩
        obtain rfl := r1.isInt
        refine ⟨_, _, _, _, _, I1, e1, fun u H2 F2 ad2 I2 g2 r2 => ?_⟩
        obtain rfl := r2.isInt
        refine ⟨i, j, rfl, rfl, ⟨by omega, by omega, by omega, by omega, by omega⟩, fun l hl => ?_⟩
        refine fin_lstO I2.sub hl (rgV_reps i _) rfl fun a H3 F3 x ha hf ht => k a H3 F3 ad2 (I2.ext x) ((g1.trans g2).trans (Go.ext x)) ?_ hf (fun kd q => I2.fresh ha kd q) ht
        cases e : H a with
        | none => rfl
        | some o => exact absurd ha ((g1.trans g2).pres a (by rw [e]; simp))
      · cases hm
    · cases hm
  · cases hm
theorem eo_lrg1 {n : E} {p p2 q2 : Pos} (hc : X.calm = true) (hg : Gl X "list") (hm : X.mg "list" = none) (hg2 : Gl X "range") (hm2 : X.mg "range" = none) (ha : PE X a (tE κ n)) (na : starEach [a] X.env = (false, eval a X.env) :: starEach [] X.env := by rfl)
    (na2 : starEach [.Call (.Name "range" p2) [a] [] q2] X.env = (false, eval (.Call (.Name "range" p2) [a] [] q2) X.env) :: starEach [] X.env := by rfl) :
    PE X (.Call (.Name "list" p) [.Call (.Name "range" p2) [a] [] q2] [] pos) (tO κ (eLrg (eK (.int 0)) n)) :=
  pe_of (pe_listRg hc hg hm (prg_1 hg2 hm2 ha na) na2) fun _ _ _ q => lrg1_args q
theorem eo_lrg2 {m n : E} {p p2 q2 : Pos} (hc : X.calm = true) (hg : Gl X "list") (hm : X.mg "list" = none) (hg2 : Gl X "range") (hm2 : X.mg "range" = none) (ha : PE X a (tE κ m)) (hb : PE X b (tE κ n)) (na : starEach [a, b] X.env = (false, eval a X.env) :: starEach [b] X.env := by rfl)
    (nb : starEach [b] X.env = (false, eval b X.env) :: starEach [] X.env := by rfl) (hp : (backTo q2 (starEach [b] X.env)).any (·.1) = false := by rfl)
    (na2 : starEach [.Call (.Name "range" p2) [a, b] [] q2] X.env = (false, eval (.Call (.Name "range" p2) [a, b] [] q2) X.env) :: starEach [] X.env := by rfl) :
    PE X (.Call (.Name "list" p) [.Call (.Name "range" p2) [a, b] [] q2] [] pos) (tO κ (eLrg m n)) :=
  pe_of (pe_listRg hc hg hm (prg_2 hg2 hm2 ha hb na nb hp) na2) fun _ _ _ q => lrg2_args q
end DL
/-! zip(a, b, strict=True) of two lists of one length: the turns of the strict zip object. -/
namespace DL
open PySem L2 PyProof.Rows
/-- the object of a strict zip -/
abbrev ZsIs (h : Heap) (z TI TO : Addr) (f0 : Value) : Prop :=
  h.get? z = some { cls := .type "zip", dict := none, data := .fields #[f0, .bool false, .bool true, .ref TI, .ref TO], slots := #[] }
section
variable {prog : Program} {w : World} {A : Around} {E : Value → Shared → Prop} {s : Shared}
theorem zs_nextOrEnd_item {it l : Addr} {i : Nat} {items : Array Value} {x : Value} {Q : Option Value → Shared → Prop} (hit : s.heap.IsListIter it l i)
    (hl : s.heap.IsList l items) (hx : items[i]? = some x)
    (hQ : ∀ h', h'.IsListIter it l (i + 1) → Heap.SameBut it s.heap h' → Q (some x) { s with heap := h' }) :
    wpAny (model prog w) A (Builtin.SmallTypes.nextOrEnd (.ref it)) Q E s := by
  unfold Builtin.SmallTypes.nextOrEnd
  exact wpAny_bind (wpAny_attempt (wpAny_nextOf_list_item hit hl hx fun h' a b => wpAny_pure (hQ h' a b)))
theorem zs_nextOrEnd_end {it l : Addr} {i : Nat} {items : Array Value} {Q : Option Value → Shared → Prop} (hh : A.handled = none)
    (hit : s.heap.IsListIter it l i) (hl : s.heap.IsList l items) (hx : items[i]? = none)
    (hQ : ∀ h', Heap.ExtBut it s.heap h' → Q none { s with heap := h' }) :
    wpAny (model prog w) A (Builtin.SmallTypes.nextOrEnd (.ref it)) Q E s := by
  unfold Builtin.SmallTypes.nextOrEnd
  refine wpAny_bind (wpAny_attempt (wpAny_nextOf_list_end hh hit hl hx fun h' e a b => ?_))
  obtain ⟨o, ho, hc⟩ := b
  refine wpAny_bind (wpAny_isInstance (T := "StopIteration") (b := true) ⟨o, ho, hc⟩ isSubtype_stop ?_)
  exact wpAny_pure (hQ _ a)
theorem zs_next_item {z TI TO i1 i2 l1 l2 : Addr} {k1 k2 : Nat} {xs ys : Array Value} {x y a b : Value} {Q : Value → Shared → Prop} (D : ZipApart z TI TO i1 i2 l1 l2)
    (hz : ZsIs s.heap z TI TO .none) (hTI : IsPair s.heap TI (.ref i1) (.ref i2)) (hTO : IsPair s.heap TO a b)
    (h1 : s.heap.IsListIter i1 l1 k1) (h2 : s.heap.IsListIter i2 l2 k2) (hl1 : s.heap.IsList l1 xs) (hl2 : s.heap.IsList l2 ys) (hx : xs[k1]? = some x) (hy : ys[k2]? = some y)
    (hQ : ∀ h', ZsIs h' z TI TO (rawInt s.heap.objs.size) → IsPair h' TO x y → h'.IsListIter i1 l1 (k1 + 1) → h'.IsListIter i2 l2 (k2 + 1) → IsPair h' s.heap.objs.size x y → h'.objs.size = s.heap.objs.size + 1 →
      (∀ c o, c ≠ z → c ≠ TO → c ≠ i1 → c ≠ i2 → s.heap.get? c = some o → h'.get? c = some o) → Q (.ref s.heap.objs.size) { s with heap := h' }) :
    wpAny (model prog w) A (Builtin.«zip.__next__» ⟨[.ref z], []⟩) (fun fin s' => ∃ v, fin = .done (.ret v) ∧ Q v s') E s := by
  show wpAny _ _ (field (.ref z) 2 >>= _) _ _ _
  refine wpAny_bind (wpAny_field hz rfl (x := .bool true) rfl ?_)
  show wpAny _ _ (field (.ref z) 3 >>= _) _ _ _
  refine wpAny_bind (wpAny_field hz rfl (x := .ref TI) rfl ?_)
  refine wpAny_bind (wpAny_seqItems hTI rfl ?_)
  show wpAny _ _ (Builtin.SmallTypes.ownedTupleIsFree (.ref z) >>= _) _ _ _
  refine wpAny_bind ?_
  unfold Builtin.SmallTypes.ownedTupleIsFree
  refine wpAny_bind (wpAny_field hz rfl (x := .none) rfl (wpAny_pure ?_))
  simp only [if_true]
  refine wpAny_bind (wpAny_rule ?_)
  refine wpAny_bind (wpAny_field hz rfl (x := .ref TO) rfl ?_)
  refine wpAny_bind (wpAny_setField_rec hz (by simp) fun h₁ hz₁ hs₁ => ?_)
  replace hz₁ : ZsIs h₁ z TI TO .ellipsis := hz₁
  refine wpAny_bind ?_
  simp only [List.zipIdx_cons, List.zipIdx_nil, List.forIn_cons, List.forIn_nil]
  refine wpAny_bind (wpAny_bind (wpAny_onRaise ?_))
  show wpAny _ _ (Builtin.SmallTypes.nextOrEnd (.ref i1)) _ _ _
  refine zs_nextOrEnd_item (h1.extBut hs₁.extBut D.i1z) (hl1.extBut hs₁.extBut D.l1z) hx fun h₂ h1₂ hs₂ => ?_
  have hTO₂ : IsPair h₂ TO a b := hs₂.extBut _ _ D.TOi1 (hs₁.extBut _ _ D.TOz hTO)
  refine wpAny_bind (wpAny_seqItems hTO₂ rfl ?_)
  refine wpAny_bind (wpAny_updateSeq_pair hTO₂ fun h₃ hTO₃ hs₃ => ?_)
  replace hTO₃ : IsPair h₃ TO x b := hTO₃
  refine wpAny_bind (wpAny_letGo (wpAny_pure ?_))
  refine wpAny_bind (wpAny_bind (wpAny_onRaise ?_))
  show wpAny _ _ (Builtin.SmallTypes.nextOrEnd (.ref i2)) _ _ _
  refine zs_nextOrEnd_item (((h2.extBut hs₁.extBut D.i2z).extBut hs₂.extBut D.i12.symm).extBut hs₃.extBut D.TOi2.symm)
    (((hl2.extBut hs₁.extBut D.l2z).extBut hs₂.extBut D.l2i1).extBut hs₃.extBut D.l2TO) hy fun h₄ h2₄ hs₄ => ?_
  have hTO₄ : IsPair h₄ TO x b := hs₄.extBut _ _ D.TOi2 hTO₃
  refine wpAny_bind (wpAny_seqItems hTO₄ rfl ?_)
  refine wpAny_bind (wpAny_updateSeq_pair hTO₄ fun h₅ hTO₅ hs₅ => ?_)
  replace hTO₅ : IsPair h₅ TO x y := hTO₅
  refine wpAny_bind (wpAny_letGo (wpAny_pure (wpAny_pure ?_)))
  refine wpAny_bind (wpAny_seqItems hTO₅ rfl ?_)
  refine wpAny_bind (wpAny_newTuple ?_)
  have hsz : h₅.objs.size = s.heap.objs.size := by rw [hs₅.1, hs₄.1, hs₃.1, hs₂.1, hs₁.1]
  have hz₅ : ZsIs h₅ z TI TO .ellipsis := hs₅.extBut _ _ D.TOz.symm (hs₄.extBut _ _ D.i2z.symm (hs₃.extBut _ _ D.TOz.symm (hs₂.extBut _ _ D.i1z.symm hz₁)))
  have hk₅ : ∀ c o, c ≠ z → c ≠ TO → c ≠ i1 → c ≠ i2 → s.heap.get? c = some o → h₅.get? c = some o := fun c o c1 c2 c3 c4 e =>
    hs₅.extBut _ _ c2 (hs₄.extBut _ _ c4 (hs₃.extBut _ _ c2 (hs₂.extBut _ _ c3 (hs₁.extBut _ _ c1 e))))
  have h1₅ : h₅.IsListIter i1 l1 (k1 + 1) := ((h1₂.extBut hs₃.extBut D.TOi1.symm).extBut hs₄.extBut D.i12).extBut hs₅.extBut D.TOi1.symm
  have h2₅ : h₅.IsListIter i2 l2 (k2 + 1) := h2₄.extBut hs₅.extBut D.TOi2.symm
  have hzlt : z < h₅.objs.size := Heap.lt_size hz₅
  show wpAny _ _ (Builtin.SmallTypes.ownedTupleHandOut (.ref z) (.ref h₅.objs.size) >>= _) _ _ _
  refine wpAny_bind ?_
  unfold Builtin.SmallTypes.ownedTupleHandOut
  have hz₆ : ZsIs (h₅.push { cls := .type "tuple", data := .seq #[x, y] }) z TI TO .ellipsis := Heap.get?_push_of_some _ hz₅
  refine wpAny_bind (wpAny_setField_rec hz₆ (by simp) fun h₇ hz₇ hs₇ => ?_)
  replace hz₇ : ZsIs h₇ z TI TO (rawInt h₅.objs.size) := hz₇
  refine wpAny_setField_rec hz₇ (by simp) fun h₈ hz₈ hs₈ => ?_
  replace hz₈ : ZsIs h₈ z TI TO (rawInt h₅.objs.size) := hz₈
  have up : ∀ c o, c ≠ z → h₅.get? c = some o → h₈.get? c = some o := fun c o c1 e => hs₈.extBut _ _ c1 (hs₇.extBut _ _ c1 (Heap.get?_push_of_some _ e))
  have hT₈ : IsPair h₈ h₅.objs.size x y := hs₈.extBut _ _ (Nat.ne_of_gt hzlt) (hs₇.extBut _ _ (Nat.ne_of_gt hzlt) (Heap.get?_push_size _ rfl))
  have hz8 : h₈.objs.size = h₅.objs.size + 1 := by rw [hs₈.1, hs₇.1, Heap.size_push]
  rw [hsz] at hz₈ hT₈ hz8
  refine wpAny_pure ⟨_, rfl, ?_⟩
  show Q (.ref h₅.objs.size) _
  rw [hsz]
  exact hQ h₈ hz₈ (up _ _ D.TOz hTO₅) (h1₅.at fun o e => up _ o D.i1z e) (h2₅.at fun o e => up _ o D.i2z e) hT₈ hz8 fun c o c1 c2 c3 c4 e => up c o c1 (hk₅ c o c1 c2 c3 c4 e)
theorem zs_next_end {z TI TO i1 i2 l1 l2 : Addr} {k1 k2 : Nat} {xs ys : Array Value} {a b : Value} {Q : Fin → Shared → Prop} (hh : A.handled = none) (D : ZipApart z TI TO i1 i2 l1 l2)
    (hz : ZsIs s.heap z TI TO .none) (hTI : IsPair s.heap TI (.ref i1) (.ref i2)) (hTO : IsPair s.heap TO a b)
    (h1 : s.heap.IsListIter i1 l1 k1) (h2 : s.heap.IsListIter i2 l2 k2) (hl1 : s.heap.IsList l1 xs) (hl2 : s.heap.IsList l2 ys) (hx : xs[k1]? = none) (hy : ys[k2]? = none)
    (hE : ∀ h' e, (∀ c o, c ≠ z → c ≠ TO → c ≠ i1 → c ≠ i2 → s.heap.get? c = some o → h'.get? c = some o) → (∃ o, h'.get? e = some o ∧ o.cls = .type "StopIteration") → E (.ref e) { s with heap := h' }) :
    wpAny (model prog w) A (Builtin.«zip.__next__» ⟨[.ref z], []⟩) Q E s := by
  show wpAny _ _ (field (.ref z) 2 >>= _) _ _ _
  refine wpAny_bind (wpAny_field hz rfl (x := .bool true) rfl ?_)
  show wpAny _ _ (field (.ref z) 3 >>= _) _ _ _
  refine wpAny_bind (wpAny_field hz rfl (x := .ref TI) rfl ?_)
  refine wpAny_bind (wpAny_seqItems hTI rfl ?_)
  show wpAny _ _ (Builtin.SmallTypes.ownedTupleIsFree (.ref z) >>= _) _ _ _
  refine wpAny_bind ?_
  unfold Builtin.SmallTypes.ownedTupleIsFree
  refine wpAny_bind (wpAny_field hz rfl (x := .none) rfl (wpAny_pure ?_))
  simp only [if_true]
  refine wpAny_bind (wpAny_rule ?_)
  refine wpAny_bind (wpAny_field hz rfl (x := .ref TO) rfl ?_)
  refine wpAny_bind (wpAny_setField_rec hz (by simp) fun h₁ hz₁ hs₁ => ?_)
  replace hz₁ : ZsIs h₁ z TI TO .ellipsis := hz₁
  refine wpAny_bind ?_
  simp only [List.zipIdx_cons, List.zipIdx_nil, List.forIn_cons, List.forIn_nil]
  refine wpAny_bind (wpAny_bind (wpAny_onRaise ?_))
  show wpAny _ _ (Builtin.SmallTypes.nextOrEnd (.ref i1)) _ _ _
  refine zs_nextOrEnd_end hh (h1.extBut hs₁.extBut D.i1z) (hl1.extBut hs₁.extBut D.l1z) hx fun h₂ hs₂ => ?_
  have hz₂ : ZsIs h₂ z TI TO .ellipsis := hs₂ _ _ D.i1z.symm hz₁
  refine wpAny_bind (wpAny_setField_rec hz₂ (by simp) fun h₃ hz₃ hs₃ => ?_)
  replace hz₃ : ZsIs h₃ z TI TO .none := hz₃
  refine wpAny_bind ?_
  show wpAny _ _ ((forIn (([Value.ref i1, Value.ref i2].drop 1).zipIdx 1) _ _ : Sem _) >>= _) _ _ _
  simp only [List.drop_succ_cons, List.drop_zero, List.zipIdx_cons, List.zipIdx_nil, List.forIn_cons, List.forIn_nil]
  have h1b : h₃.IsListIter i2 l2 k2 := ((h2.extBut hs₁.extBut D.i2z).extBut hs₂ D.i12.symm).extBut hs₃.extBut D.i2z
  have h2b : h₃.IsList l2 ys := ((hl2.extBut hs₁.extBut D.l2z).extBut hs₂ D.l2i1).extBut hs₃.extBut D.l2z
  refine wpAny_bind (wpAny_bind (wpAny_bind (zs_nextOrEnd_end hh h1b h2b hy fun h₄ hs₄ => ?_)))
  show wpAny _ _ (pure (ForInStep.yield PUnit.unit)) _ _ _
  refine wpAny_pure (wpAny_pure ?_)
  refine wpAny_bind (wpAny_rule ?_)
  show wpAny _ _ (newExc (.type "StopIteration") [] >>= _) _ _ _
  refine wpAny_bind ?_
  simp only [newExc, newTuple]
  refine wpAny_bind (wpAny_newObj_type ?_ (by size_fits))
  refine wpAny_bind (m := firstArgMember _ _) (wpAny_of_eq (a := Value.none) (by first | rfl | (simp only [firstArgMember]; rfl)) ?_)
  refine wpAny_newObj_type ?_ (by size_fits)
  simp only [raiseNew]
  refine wpAny_bind (wpAny_handled ?_)
  rw [hh]
  refine wpAny_bind (wpAny_pure (wpAny_throw ?_))
  refine hE _ _ (fun c o c1 _ c3 c4 x => Heap.get?_push_of_some _ (Heap.get?_push_of_some _ (hs₄ _ _ c4 (hs₃.extBut _ _ c1 (hs₂ _ _ c3 (hs₁.extBut _ _ c1 x)))))) ⟨_, Heap.get?_push_size _ rfl, rfl⟩
theorem zs_pyNext_item {z TI TO i1 i2 l1 l2 : Addr} {k1 k2 : Nat} {xs ys : Array Value} {x y a b : Value} {Q : Option Value → Shared → Prop} (D : ZipApart z TI TO i1 i2 l1 l2)
    (hz : ZsIs s.heap z TI TO .none) (hTI : IsPair s.heap TI (.ref i1) (.ref i2)) (hTO : IsPair s.heap TO a b)
    (h1 : s.heap.IsListIter i1 l1 k1) (h2 : s.heap.IsListIter i2 l2 k2) (hl1 : s.heap.IsList l1 xs) (hl2 : s.heap.IsList l2 ys) (hx : xs[k1]? = some x) (hy : ys[k2]? = some y)
    (hQ : ∀ h', ZsIs h' z TI TO (rawInt s.heap.objs.size) → IsPair h' TO x y → h'.IsListIter i1 l1 (k1 + 1) → h'.IsListIter i2 l2 (k2 + 1) → IsPair h' s.heap.objs.size x y → h'.objs.size = s.heap.objs.size + 1 →
      (∀ c o, c ≠ z → c ≠ TO → c ≠ i1 → c ≠ i2 → s.heap.get? c = some o → h'.get? c = some o) → Q (some (.ref s.heap.objs.size)) { s with heap := h' }) :
    wpAny (model prog w) A (pyNext (.ref z)) Q E s := by
  have hT : s.TypeIs (.ref z) "zip" := ⟨_, hz, rfl⟩
  unfold pyNext
  exact wpAny_bind (wpAny_attempt (wpAny_callSpecial?_slot (name := Str.ofString "__next__") hT F.slot_zip_next
    (wpAny_call_entry F.slot_zip_next hT F.entry_zip_next
      (zs_next_item D hz hTI hTO h1 h2 hl1 hl2 hx hy fun h' a1 a2 a3 a4 a5 a6 a7 => wpAny_pure (hQ h' a1 a2 a3 a4 a5 a6 a7)) (F.args_zip_next_1 _))))
theorem zs_pyNext_end {z TI TO i1 i2 l1 l2 : Addr} {k1 k2 : Nat} {xs ys : Array Value} {a b : Value} {Q : Option Value → Shared → Prop} (hh : A.handled = none) (D : ZipApart z TI TO i1 i2 l1 l2)
    (hz : ZsIs s.heap z TI TO .none) (hTI : IsPair s.heap TI (.ref i1) (.ref i2)) (hTO : IsPair s.heap TO a b)
    (h1 : s.heap.IsListIter i1 l1 k1) (h2 : s.heap.IsListIter i2 l2 k2) (hl1 : s.heap.IsList l1 xs) (hl2 : s.heap.IsList l2 ys) (hx : xs[k1]? = none) (hy : ys[k2]? = none)
    (hQ : ∀ h', (∀ c o, c ≠ z → c ≠ TO → c ≠ i1 → c ≠ i2 → s.heap.get? c = some o → h'.get? c = some o) → Q none { s with heap := h' }) : wpAny (model prog w) A (pyNext (.ref z)) Q E s := by
  have hT : s.TypeIs (.ref z) "zip" := ⟨_, hz, rfl⟩
  unfold pyNext
  refine wpAny_bind (wpAny_attempt (wpAny_callSpecial?_slot (name := Str.ofString "__next__") hT F.slot_zip_next
    (wpAny_call_entry F.slot_zip_next hT F.entry_zip_next (zs_next_end hh D hz hTI hTO h1 h2 hl1 hl2 hx hy fun h' e hk he => ?_) (F.args_zip_next_1 _))))
  obtain ⟨o, ho, hc⟩ := he
  refine wpAny_bind (wpAny_isInstance (T := "StopIteration") (b := true) ⟨o, ho, hc⟩ isSubtype_stop ?_)
  exact wpAny_pure (hQ _ hk)
theorem zs_letGo {elts : List Expr} {x1} {pos : Pos} {z TI TO T : Addr} {Q : Unit → Shared → Prop} (hz : ZsIs s.heap z TI TO (rawInt T))
    (hQ : ∀ h', ZsIs h' z TI TO .none → Heap.SameBut z s.heap h' → Q () { s with heap := h' }) :
    wpAny (model prog w) A (letOwnedTupleGo (.Tuple elts x1 pos) (.ref z) (.ref T)) Q E s := by
  unfold letOwnedTupleGo
  refine wpAny_bind (wpAny_load hz ?_)
  show wpAny _ _ (if (["enumerate", "zip", "dict_itemiterator", "dict_reverseitemiterator", "odict_iterator", "itertools.zip_longest", "itertools.pairwise"].contains "zip" &&
      (#[rawInt T, .bool false, .bool true, .ref TI, .ref TO] : Array Value)[0]? == some (rawInt T)) = true then _ else _) Q E s
  rw [if_pos (by simp)]
  refine wpAny_bind (wpAny_rule ?_)
  show wpAny _ _ (setField (.ref z) 0 .none) Q E s
  exact wpAny_setField_rec hz (by simp) fun h' hz' hs' => hQ h' hz' hs'
theorem zs_pyIter {z TI TO : Addr} {f0 : Value} {Q : Value → Shared → Prop} (hz : ZsIs s.heap z TI TO f0) (h : Q (.ref z) s) : wpAny (model prog w) A (pyIter (.ref z)) Q E s := by
  have hT : s.TypeIs (.ref z) "zip" := ⟨_, hz, rfl⟩
  refine wpAny_pyIter_slot hT F.slot_zip_iter (wpAny_call_entry F.slot_zip_iter hT F.entry_zip_iter ?_ (F.args_zip_iter_1 _))
  show wpAny _ _ (ret (.ref z)) _ _ s
  exact wpAny_pure ⟨_, rfl, "zip", _, hT, F.slot_zip_next.lookup, h⟩
end
/-! the making of it -/
theorem zs_typeCall (a b : Value) : checkTypeCall "zip" ⟨[a, b], [(Str.ofString "strict", .bool true)]⟩ = pure () := by kernel_rfl
theorem zs_newCall (a b : Value) : checkBuiltinCall "zip.__new__" ⟨[.type "zip", a, b], [(Str.ofString "strict", .bool true)]⟩ = pure () := by kernel_rfl
theorem zs_args (obj a b : Value) : argsOk "object.__init__" ⟨[obj, a, b], [(Str.ofString "strict", .bool true)]⟩ := by unfold argsOk; kernel_rfl
abbrev zsH5 (h : Heap) (l1 l2 : Addr) : Heap := (zipH4 h l1 l2).push { cls := .type "zip", data := .fields #[.none, .bool false, .bool true, .ref (zipH2 h l1 l2).objs.size, .ref (zipH3 h l1 l2).objs.size] }
theorem zs_meets (l1 l2 : Addr) (xs ys : Array Value) :
    Meets (Builtin.«zip.__new__» ⟨[.type "zip", .ref l1, .ref l2], [(Str.ofString "strict", .bool true)]⟩) (fun _ R s => s.heap.IsList l1 xs ∧ s.heap.IsList l2 ys ∧
      R (.ok (.ret (.ref (zipH4 s.heap l1 l2).objs.size))) { s with heap := zsH5 s.heap l1 l2 }) :=
  .of_wp fun prog w A R s h => by
    obtain ⟨hp, g, d, tk, os⟩ := s; obtain ⟨hl1, hl2, h⟩ := h
    have hsub := sub_zip
    have hL1 : Heap.IsList (Shared.heap ⟨hp, g, d, tk, os⟩) l1 xs := hl1
    have hL2 : Heap.IsList (Shared.heap ⟨hp.push { cls := .type "list_iterator", data := .fields #[.ref l1, .int 0 0] }, g, d, tk, os⟩) l2 ys := Heap.IsList.push hl2 _
    have e1 : (Str.ofString "strict" == ("strict" : Str)) = true := by decide +kernel
    have e2 : (Str.ofString "strict" != ("strict" : Str)) = false := by decide +kernel
    wp_walk using wpAny_pyIter_list hL1, wpAny_pyIter_list hL2
    exact ⟨_, rfl, h⟩
section
variable {prog : Program} {w : World} {A : Around} {E : Value → Shared → Prop} {s : Shared}
theorem zs_call {l1 l2 : Addr} {xs ys : Array Value} {Q : Value → Shared → Prop} (hl1 : s.heap.IsList l1 xs) (hl2 : s.heap.IsList l2 ys)
    (h : ∀ h', ZsIs h' (s.heap.objs.size + 4) (s.heap.objs.size + 2) (s.heap.objs.size + 3) .none → IsPair h' (s.heap.objs.size + 2) (.ref s.heap.objs.size) (.ref (s.heap.objs.size + 1)) →
      IsPair h' (s.heap.objs.size + 3) .none .none → h'.IsListIter s.heap.objs.size l1 0 → h'.IsListIter (s.heap.objs.size + 1) l2 0 → h'.objs.size = s.heap.objs.size + 5 →
      (∀ c o, s.heap.get? c = some o → h'.get? c = some o) → Q (.ref (s.heap.objs.size + 4)) { s with heap := h' }) :
    wpAny (model prog w) A (call (.type "zip") [.ref l1, .ref l2] [(Str.ofString "strict", .bool true)]) Q E s := by
  refine callType_newKw F.called_zip (by decide) (zs_typeCall _ _) (zs_newCall _ _) (fun obj => zs_args obj _ _) F.entry_zip_new
    (zs_meets l1 l2 xs ys) ⟨hl1, hl2, ?_⟩
  have z1 : (zipH1 s.heap l1).objs.size = s.heap.objs.size + 1 := Heap.size_push ..
  have z2 : (zipH2 s.heap l1 l2).objs.size = s.heap.objs.size + 2 := by rw [Heap.size_push, z1]
  have z3 : (zipH3 s.heap l1 l2).objs.size = s.heap.objs.size + 3 := by rw [Heap.size_push, z2]
  have z4 : (zipH4 s.heap l1 l2).objs.size = s.heap.objs.size + 4 := by rw [Heap.size_push, z3]
  have z5 : (zsH5 s.heap l1 l2).objs.size = s.heap.objs.size + 5 := by rw [Heap.size_push, z4]
  have g5 : (zsH5 s.heap l1 l2).get? (zipH4 s.heap l1 l2).objs.size = some _ := Heap.get?_push_size _ rfl
  have g4 : (zsH5 s.heap l1 l2).get? (zipH3 s.heap l1 l2).objs.size = some _ := Heap.get?_push_of_some _ (Heap.get?_push_size _ rfl)
  have g3 : (zsH5 s.heap l1 l2).get? (zipH2 s.heap l1 l2).objs.size = some _ := Heap.get?_push_of_some _ (Heap.get?_push_of_some _ (Heap.get?_push_size _ rfl))
  have g2 : (zsH5 s.heap l1 l2).get? (zipH1 s.heap l1).objs.size = some _ := Heap.get?_push_of_some _ (Heap.get?_push_of_some _ (Heap.get?_push_of_some _ (Heap.get?_push_size _ rfl)))
  have g1 : (zsH5 s.heap l1 l2).get? s.heap.objs.size = some _ := Heap.get?_push_of_some _ (Heap.get?_push_of_some _ (Heap.get?_push_of_some _ (Heap.get?_push_of_some _ (Heap.get?_push_size _ rfl))))
  show _ ∧ _
  rw [z2, z3, z4] at g5
  rw [z1, z2] at g3
  rw [z3] at g4
  rw [z1] at g2
  rw [z4]
  exact ⟨⟨_, g5, rfl⟩, h _ g5 g3 g4 ⟨_, g1, rfl, rfl⟩ ⟨_, g2, rfl, rfl⟩ z5 fun c o x =>
    Heap.get?_push_of_some _ (Heap.get?_push_of_some _ (Heap.get?_push_of_some _ (Heap.get?_push_of_some _ (Heap.get?_push_of_some _ x))))⟩
end
/-! the turns -/
/-- as Itz, with lists of one length -/
def ItzS (K : PySem.W.Frag) (a b : Addr) : It :=
  ⟨(Itz K a b).go, (Itz K a b).yld, fun i H => ∃ xs ys : List V, SqL K H a xs ∧ SqL K H b ys ∧ xs.length ≤ i ∧ ys.length ≤ i⟩
theorem turn_zipS {P : Program} {w : World} {K : PySem.W.Frag} {elts : List Expr} {kk : Nat} {tpos : Pos} {a b z TI TO i1 i2 : Addr} (D : ZipApart z TI TO i1 i2 a b) :
    Turn P w K (.Tuple elts kk tpos) (ItzS K a b) [z, TI, TO, i1, i2] z (fun i h => ZsIs h z TI TO .none ∧ IsPair h TI (.ref i1) (.ref i2) ∧ (∃ x y, IsPair h TO x y) ∧ h.IsListIter i1 a i ∧ h.IsListIter i2 b i) where
  mem := by simp
  obj := fun i h st c hc => by
    obtain ⟨hz, hTI, ⟨x, y, hTO⟩, ⟨o1, e1, _, d1⟩, ⟨o2, e2, _, d2⟩⟩ := st
    have e' : c = z ∨ c = TI ∨ c = TO ∨ c = i1 ∨ c = i2 := by simpa using hc
    rcases e' with q | q | q | q | q
    · rw [q]; exact ⟨_, hz, fun v q => nomatch q⟩
    · rw [q]; exact ⟨_, hTI, fun v q => nomatch q⟩
    · rw [q]; exact ⟨_, hTO, fun v q => nomatch q⟩
    · rw [q]; exact ⟨o1, e1, fun v q => by rw [d1] at q; cases q⟩
    · rw [q]; exact ⟨o2, e2, fun v q => by rw [d2] at q; cases q⟩
  keep := fun i h h' st k => by
    obtain ⟨hz, hTI, ⟨x, y, hTO⟩, h1, h2⟩ := st
    exact ⟨k z (by simp) _ hz, k TI (by simp) _ hTI, ⟨x, y, k TO (by simp) _ hTO⟩, h1.at fun o q => k i1 (by simp) o q, h2.at fun o q => k i2 (by simp) o q⟩
  item := by
    intro X hP hw hK hc i pins s σ H E I hf st hg
    subst hP hw hK
    obtain ⟨hz, hTI, ⟨x0, y0, hTO⟩, h1, h2⟩ := st
    obtain ⟨xs, ys, x, y, hqx, hqy, hx, hy⟩ := hg
    obtain ⟨its, rv, p, _⟩ := I.list hqx
    obtain ⟨its2, rv2, p2, _⟩ := I.list hqy
    obtain ⟨u, hu, ru⟩ := rv.get hx
    obtain ⟨u2, hu2, ru2⟩ := rv2.get hy
    have hzl : z < s.heap.objs.size := Heap.lt_size hz
    refine zs_pyNext_item D hz hTI hTO h1 h2 p.isList p2.isList (x := u) (y := u2) (by simpa using hu) (by simpa using hu2) fun h' z' TO' h1' h2' hT hsz hk => ?_
    refine ⟨_, rfl, zs_letGo (s := { s with heap := h' }) z' fun h'' z'' sb => ?_⟩
    have hT2 : h''.get? s.heap.objs.size = some { cls := .type "tuple", data := .seq #[u, u2] } := (sb.2 _ (Nat.ne_of_gt hzl)).trans hT
    have new : ObjOk X.prog X.w (upd H s.heap.objs.size (.tup [x, y])) h'' s.heap.objs.size (.tup [x, y]) :=
      ⟨by show 2 ≤ sizeLine; decide, [u, u2], .cons ru (.cons ru2 .nil), ⟨_, hT2, rfl, _, rfl⟩⟩
    have I1 : Inv X pins σ (upd H s.heap.objs.size (.tup [x, y])) { s with heap := h'' } :=
      I.turnedNew (t' := s.toks) (ch := [z, TI, TO, i1, i2]) (fun c o hb q => (sb.2 c (fun q' => hb (by simp [q']))).trans (hk c o (fun q' => hb (by simp [q'])) (fun q' => hb (by simp [q'])) (fun q' => hb (by simp [q'])) (fun q' => hb (by simp [q'])) q)) hf (Nat.le_refl _) new
    refine ⟨.ref s.heap.objs.size, _, I1, rfl, ⟨_, x, y, rfl, I.hok.fresh (Nat.le_refl _), rfl, fun l hl => by rw [I.list_inj hl hqx]; exact hx, fun l hl => by rw [I.list_inj hl hqy]; exact hy⟩, ⟨z'', ?_, ⟨u, u2, ?_⟩, ?_, ?_⟩, fun c hcm => ?_⟩
    · exact (sb.2 _ D.TIz).trans (hk _ _ D.TIz D.TITO D.TIi1 D.TIi2 hTI)
    · exact (sb.2 _ D.TOz).trans TO'
    · exact h1'.at fun o q => (sb.2 _ D.i1z).trans q
    · exact h2'.at fun o q => (sb.2 _ D.i2z).trans q
    · have hlt : c < s.heap.objs.size := by
        have e' : c = z ∨ c = TI ∨ c = TO ∨ c = i1 ∨ c = i2 := by simpa using hcm
        rcases e' with q | q | q | q | q
        · rw [q]; exact hzl
        · rw [q]; exact Heap.lt_size hTI
        · rw [q]; exact Heap.lt_size hTO
        · rw [q]; obtain ⟨_, e1, _⟩ := h1; exact Heap.lt_size e1
        · rw [q]; obtain ⟨_, e2, _⟩ := h2; exact Heap.lt_size e2
      rw [upd_ne (Nat.ne_of_lt hlt)]
      exact (hf c hcm).1
  done := by
    intro X hP hw hK hc i pins s σ H E I hf st hg
    subst hP hw hK
    obtain ⟨hz, hTI, ⟨x0, y0, hTO⟩, h1, h2⟩ := st
    obtain ⟨xs, ys, hqx, hqy, q1, q2⟩ := hg
    obtain ⟨its, rv, p, _⟩ := I.list hqx
    obtain ⟨its2, rv2, p2, _⟩ := I.list hqy
    have l1 := rv.length
    have l2 := rv2.length
    exact zs_pyNext_end (I.ok.hd hc) D hz hTI hTO h1 h2 p.isList p2.isList (by simp; omega) (by simp; omega) fun h' hk => ⟨rfl, I.turnedL (t' := s.toks) (ch := [z, TI, TO, i1, i2]) (fun c o hb q =>
      hk c o (fun q' => hb (by simp [q'])) (fun q' => hb (by simp [q'])) (fun q' => hb (by simp [q'])) (fun q' => hb (by simp [q'])) q) hf⟩
  self := fun A i s Q E st h => zs_pyIter st.1 h
end DL
/-! zip(a, b, strict=True): the rule of the data layer. -/
namespace DL
open PySem L2 PyProof.Rows
theorem zs_callWith {M : Model} {A : Around} {E : Value → Shared → Prop} {s : Shared} {env : PySem.Env} {pos : Pos} {T : String} {e : Expr} {rest : List Expr} {kws : List Keyword} {Q : Value → Shared → Prop}
    (h : wpAny M A (spliced (backTo pos (starEach (e :: rest) env))) (fun vs s₁ => wpAny M A (evalAll ((backToKw pos (keywordEach kws env)).map (·.2)))
      (fun kvs s₂ => wpAny M A (call (.type T) vs (((backToKw pos (keywordEach kws env)).filterMap (·.1)).zip kvs)) Q E s₂) E s₁) E s)
    (he : backTo pos (starEach (e :: rest) env) = (false, eval e env) :: backTo pos (starEach rest env) := by rfl)
    (hplain : (backTo pos (starEach (e :: rest) env)).any (·.1) = false := by rfl)
    (hall : (backToKw pos (keywordEach kws env)).all (·.1.isSome) = true := by rfl)
    (hkw : (backToKw pos (keywordEach kws env)).any (·.1.isNone) = false := by rfl) :
    wpAny M A (callWith pos (.type T) [] (backTo pos (starEach (e :: rest) env)) (backToKw pos (keywordEach kws env))) Q E s := by
  unfold callWith
  have h' : wpAny M A (evalArgs (.type T) true (backTo pos (starEach (e :: rest) env)) (backToKw pos (keywordEach kws env))) (fun a s₁ => wpAny M A (call (.type T) ([] ++ a.pos) a.kw) Q E s₁) E s := by
    rw [he] at h ⊢
    exact evalArgs_kwB hall h
  refine wpAny_bind (wpAny_holding (wpAny_mono h' (fun a s₁ h₁ => wpAny_bind (wpAny_standAt ?_)) fun _ _ x => x))
  simp only [hplain, hkw, Bool.or_false]
  refine wpAny_bind (wpAny_pure ?_)
  exact wpAny_bind (wpAny_mono h₁ (fun r s₂ hr => wpAny_bind (wpAny_holding (wpAny_point (wpAny_pure hr)))) fun _ _ x => x)
def iZipS (K : PySem.W.Frag) (ta : TA) : TI := fun σ H R => ta σ H fun vs H1 => ∃ a b xs ys, vs = [.ref a, .ref b] ∧ SqL K H1 a xs ∧ SqL K H1 b ys ∧ R (ItzS K a b) H1
theorem pi_zipS {X : Cx} {e e2 : Expr} {ta : TA} {p pos p1 p2 tpos : Pos} {elts : List Expr} {kk j : Nat} (hg : Gl X "zip") (hm : X.mg "zip" = none) (ha : PA X [e, e2] ta)
    (he : backTo pos (starEach [e, e2] X.env) = (false, eval e X.env) :: backTo pos (starEach [e2] X.env) := by rfl)
    (hplain : (backTo pos (starEach [e, e2] X.env)).any (·.1) = false := by rfl) :
    PI X (.Tuple elts kk tpos) (.Call (.Name "zip" p) [e, e2] [⟨some (Str.ofString "strict"), .Constant (.bool true) j p1, p2⟩] pos) (iZipS X.K ta) := by
  refine ⟨fun pins s σ H R I h => ?_⟩
  have hk : PK X [⟨some (Str.ofString "strict"), .Constant (.bool true) j p1, p2⟩] (tCons (tC (.bl true)) tNil) := pk_cons pe_bl pk_nil
  refine wpAny_Call_Name_kw (ld_blt I hg hm PyProof.Rows.boot_zip ?_)
  refine zs_callWith (thn (ha.run pos pins s σ H _ I h) fun us s1 ⟨vs, H1, I1, r1, q1⟩ => thn (hk.run pos pins s1 σ H1 (fun zs H2 => zs = [.bl true] ∧ H2 = H1) I1 ⟨rfl, rfl⟩) fun ws s2 ⟨zs, H2, I2, r2, q2⟩ => ?_) he hplain
  obtain ⟨rfl, rfl⟩ := q2
  obtain ⟨w1, rfl, e1⟩ := vals1 r2
  obtain rfl : w1 = Value.bool true := e1
  obtain ⟨a, b, xs, ys, ex, hqx, hqy, q⟩ := q1
  subst ex
  cases r1 with
  | cons r rr =>
    cases rr with
    | cons r' rr =>
      cases rr
      cases r
      cases r'
      obtain ⟨its, rv, p1, _⟩ := I2.list hqx
      obtain ⟨its2, rv2, p2, _⟩ := I2.list hqy
      have la : a < s2.heap.objs.size := p1.lt
      have lb : b < s2.heap.objs.size := p2.lt
      refine zs_call p1.isList p2.isList fun h' hz hTI hTO h1 h2 hsz hk => zs_pyIter hz ?_
      have I3 : Inv X pins σ H2 { s2 with heap := h' } := I2.kept (t' := s2.toks) hk
      refine ⟨s2.heap.objs.size + 4, [s2.heap.objs.size + 4, s2.heap.objs.size + 2, s2.heap.objs.size + 3, s2.heap.objs.size, s2.heap.objs.size + 1], _, _, H2, rfl, I3, turn_zipS (PySem.W.ktu_apart s2.heap.objs.size a b la lb), ⟨hz, hTI, ⟨_, _, hTO⟩, h1, h2⟩, fun c hcm => ?_, q⟩
      have e' : c = s2.heap.objs.size + 4 ∨ c = s2.heap.objs.size + 2 ∨ c = s2.heap.objs.size + 3 ∨ c = s2.heap.objs.size ∨ c = s2.heap.objs.size + 1 := by simpa using hcm
      have hle : s2.heap.objs.size ≤ c := by
        rcases e' with z | z | z | z | z
        · rw [z]; exact Nat.le_add_right _ _
        · rw [z]; exact Nat.le_add_right _ _
        · rw [z]; exact Nat.le_add_right _ _
        · rw [z]; exact Nat.le_refl _
        · rw [z]; exact Nat.le_add_right _ _
      exact I2.fpOk hle (I2.hok.fresh hle)
/-! by data -/
variable {κ : Kx} {X : Cx} {a b : Expr} {pos : Pos}
def zipD : List D → List D → List D
  | x :: xs, y :: ys => .tuple [x, y] :: zipD xs ys
  | _, _ => []
theorem zipD_length : ∀ (xs ys : List D), xs.length = ys.length → (zipD xs ys).length = xs.length
  | [], ys, _ => rfl
  | _ :: xs, [], h => by cases h
  | _ :: xs, _ :: ys, h => by show (zipD xs ys).length + 1 = _; rw [zipD_length xs ys (Nat.succ.inj h)]; rfl
theorem zipD_get : ∀ (xs ys : List D) (i : Nat) (x y : D), xs[i]? = some x → ys[i]? = some y → (zipD xs ys)[i]? = some (.tuple [x, y])
  | [], _, _, _, _, h, _ => by simp at h
  | _ :: _, [], _, _, _, _, h => by simp at h
  | x' :: xs, y' :: ys, 0, x, y, h, h' => by
    simp at h h'
    subst h
    subst h'
    rfl
  | x' :: xs, y' :: ys, i + 1, x, y, h, h' => by
    show (zipD xs ys)[i]? = _
    exact zipD_get xs ys i x y (by simpa using h) (by simpa using h')
theorem zip_ok {env : Env} {H1 F1 : Hp} {ad : Nat → Addr} {p q : Addr} {vs ws : List V} {xs ys : List D} (hl : xs.length = ys.length) (h1 : Rd F1 p (.lst vs)) (h2 : Rd F1 q (.lst ws)) (r1 : Reps κ F1 vs xs) (r2 : Reps κ F1 ws ys) :
    ItOk κ (ItzS κ.K p q) (zipD xs ys) (Later env H1 F1 ad) := by
  have w := walk_zip (K := κ.K) (a := p) (b := q) (xs := vs) (ys := ws) (n := vs.length) (by have := r1.length; have := r2.length; omega)
  have ln := zipD_length xs ys hl
  have l1 := r1.length
  have l2 := r2.length
  have st : ∀ H F, Later env H1 F1 ad H F → SqL κ.K H p vs ∧ SqL κ.K H q ws := fun H F l => by
    obtain ⟨s, env2, ad2, g⟩ := l
    exact ⟨.inl (s.rd (g.sub.rd h1)), .inl (s.rd (g.sub.rd h2))⟩
  refine ⟨fun H F l => ?_, fun i H F hi l => w.goes i H (by omega) (st H F l), fun i H F x H' hi l y => ?_⟩
  · exact ⟨vs, ws, (st H F l).1, (st H F l).2, by omega, by omega⟩
  · obtain ⟨T, v1, v2, rfl, nT, rfl, e1, e2⟩ := w.yields i H x H' (by omega) (st H F l) y
    obtain ⟨d, hd, rd⟩ := r1.getV e1
    obtain ⟨d', hd', rd'⟩ := r2.getV e2
    obtain ⟨s, env2, ad2, g⟩ := id l
    have xt := Ext.laid (o := HO.tup [v1, v2]) s nT
    have up : Sub F1 (upd F T (.tup [v1, v2])) := .of_eq fun a u e => (sub_upd xt.2 a u (g.mono a u e)).elim id fun ⟨_, od, z⟩ => by
        have := g.mono a u e
        by_cases za : a = T
        · subst za; rw [xt.2] at this; cases this
        · rw [upd_ne za]; exact this
    exact ⟨upd F T (.tup [v1, v2]), _, zipD_get xs ys i d d' hd hd', xt.1.data nT xt.2 upd_same, .tup (.inl upd_same) (.two (rd.mono up) (rd'.mono up))⟩
def iZs (os : List Opd) : I := fun env => (runOpds os env).bind fun a => match a.1 with
  | [.d (.list xs), .d (.list ys)] => if xs.length = ys.length then some (zipD xs ys, a.2) else none
  | _ => none
theorem it_zipS {os : List Opd} {p p1 p2 tpos : Pos} {elts : List Expr} {kk j : Nat} (hκ : κ.K = X.K) (hg : Gl X "zip") (hm : X.mg "zip" = none) (ha : PA X [a, b] (tOs κ os))
    (he : backTo pos (starEach [a, b] X.env) = (false, eval a X.env) :: backTo pos (starEach [b] X.env) := by rfl)
    (hplain : (backTo pos (starEach [a, b] X.env)).any (·.1) = false := by rfl) :
    PI X (.Tuple elts kk tpos) (.Call (.Name "zip" p) [a, b] [⟨some (Str.ofString "strict"), .Constant (.bool true) j p1, p2⟩] pos) (tI κ (iZs os)) :=
  pi_of (pi_zipS hg hm ha he hplain) fun σ H R q => by
    obtain ⟨env, F, ad, rs, env', I, h, k⟩ := q
    unfold iZs at h
    cases e1 : runOpds os env with
    | none => rw [e1] at h; cases h
    | some r =>
      rw [e1, Option.bind_some] at h
      split at h
      · rename_i xs ys er
        split at h
        · rename_i hl
          cases h
          refine ⟨env, F, ad, r.1, r.2, I, e1, fun vs H1 F1 ad1 I1 g1 r1 => ?_⟩
          rw [er] at r1
          obtain ⟨v, w, rfl, q1, q2⟩ := Paired.two' r1
          obtain ⟨p, vs1, rfl, h1, h2⟩ := Rep.isLst q1
          obtain ⟨p', vs2, rfl, h1', h2'⟩ := Rep.isLst q2
          exact ⟨p, p', vs1, vs2, rfl, .inl (I1.sub.rd h1), .inl (I1.sub.rd h1'), hκ ▸ k _ H1 F1 ad1 I1 g1 (zip_ok hl h1 h1' h2 h2')⟩
        · cases h
      · cases h
end DL
/-! The data layer, 13: a module's constants. -/
namespace DL
open PySem L2 PyProof.Rows
variable {κ : Kx} {X : Cx} {e : Expr} {pos : Pos}
theorem ed_gint {x : Str} {i : Int} (h : ∃ t, X.mg x = some (.int i t)) (hg : Gl X x := by rfl) (hd : (x == ("__debug__" : Str)) = false := by decide) : PE X (.Name x pos) (tE κ (eK (.int i))) := by
  obtain ⟨t, h⟩ := h
  exact ed_const (pe_glob (v := .int i) hg h ⟨_, rfl⟩ hd) fun _ => .int _
theorem ed_gstr {x y : Str} (h : ∃ t, X.mg x = some (.str y t)) (hg : Gl X x := by rfl) (hd : (x == ("__debug__" : Str)) = false := by decide) : PE X (.Name x pos) (tE κ (eK (.str y))) := by
  obtain ⟨t, h⟩ := h
  exact ed_const (pe_glob (v := .str y) hg h ⟨_, rfl⟩ hd) fun _ => .str _
theorem reps_ints {F : Hp} : ∀ ns : List Int, Reps κ F (ns.map V.int) (ns.map PyData.int)
  | [] => .nil
  | n :: ns => .cons (.int n) (reps_ints ns)
theorem sqT_any {K : PySem.W.Frag} {F : Hp} {a : Addr} {vs : List V} (h : SqT K (fun _ => none) a vs) : SqT K F a vs := by
  rcases h with h | h
  · rcases h with h | ⟨_, h⟩ <;> cases h
  · exact .inr h
/-- a tuple of ints -/
theorem ed_gtupI {x : Str} {ns : List Int} (h : ∃ a, X.mg x = some (.ref a) ∧ κ.C a ∧ SqT κ.K (fun _ => none) a (ns.map V.int)) (hg : Gl X x := by rfl) (hd : (x == ("__debug__" : Str)) = false := by decide) : PE X (.Name x pos) (tE κ (eK (.tuple (ns.map .int)))) := by
  obtain ⟨a, h, hc, hs⟩ := h
  exact ed_const (pe_glob (v := .ref a) hg h rfl hd) fun F => .tup (.inr ⟨hc, hs⟩) (reps_ints ns)
/-! i in range(n) -/
def rInR : V → V → Hp → VK → Prop := fun v w H Q => ∃ i j : Int, v = .int i ∧ w = .int j ∧ Q (.bl (decide (0 ≤ i ∧ i < j))) H
theorem pe_inR {x a : Expr} {tx ta : TE} {p cpos : Pos} (hg : Gl X "range") (hm : X.mg "range" = none) (hx : PE X x tx) (ha : PE X a ta) (hs : starEach [a] X.env = [(false, eval a X.env)] := by rfl) :
    PE X (.Compare x [.In] [.Call (.Name "range" p) [a] [] cpos] pos) (fun σ H Q => tx σ H fun v H1 => ta σ H1 fun w H2 => rInR v w H2 Q) := by
  refine pe_cmp (op := .In) ⟨fun pins s σ H Q I h => ?_⟩ rfl
  refine thn (hx.run pins s σ H _ I h) fun v s1 ⟨y, H1, I1, ry, q1⟩ => ?_
  have pa : PA X [a] (tCons ta tNil) := pa_cons ha pa_nil hs
  refine Call_ (ld_blt I1 hg hm boot_range (PyProof.Rows.callWith_type1 (thn (pa.run cpos pins s1 σ H1 (fun vs H2 => match vs with | [w] => rInR y w H2 Q | _ => False) I1 ?_) fun us s2 ⟨vs, H2, I2, r2, q2⟩ => ?_) hs rfl))
  · exact q1
  · have q3 : ∃ w, vs = [w] ∧ rInR y w H2 Q := by
      rcases vs with _ | ⟨w, _ | ⟨w2, vs⟩⟩
      · exact q2.elim
      · exact ⟨w, rfl, q2⟩
      · exact q2.elim
    obtain ⟨w, rfl, i, j, rfl, rfl, q⟩ := q3
    obtain ⟨w1, rfl, t, rfl⟩ := vals1 r2
    obtain ⟨k, rfl⟩ := ry
    refine call_range_1 ?_
    have I3 : Inv X pins σ H2 { s2 with heap := s2.heap.push { cls := .type "range", data := .fields #[.int 0 s2.toks, .int j t, .int 1 (s2.toks + 1)] }, toks := s2.toks + 1 + 1 } :=
      I2.kept (t' := s2.toks + 1 + 1) fun _ _ e => Heap.get?_push_of_some _ e
    have ho : (s2.heap.push { cls := .type "range", data := .fields #[.int 0 s2.toks, .int j t, .int 1 (s2.toks + 1)] }).get? s2.heap.objs.size = some { cls := .type "range", dict := none, data := .fields #[.int 0 s2.toks, .int j t, .int 1 (s2.toks + 1)], slots := #[] } := Heap.get?_push_size _ rfl
    show wpAny _ _ (do return Value.bool (← contains (Value.ref s2.heap.objs.size) (Value.int i k))) _ _ _
    refine wpAny_bind (wpAny_contains_slot (T := "range") ⟨_, ho, rfl⟩ F.slot_range_contains (call_meets F.slot_range_contains ⟨_, ho, rfl⟩ F.entry_range_contains (F.args_range_contains_2 _ _) (q_contains s2.heap.objs.size 0 j i _ t _ k)
      ⟨ho, wpAny_truthy_bool (wpAny_pure ⟨.bl _, H2, I3, rfl, ?_⟩)⟩))
    rw [place1]
    exact q
def aInR (x y : D) : Option D := match x, y with
  | .int i, .int j => some (.bool (decide (0 ≤ i ∧ i < j)))
  | _, _ => none
theorem d_inR : Op2 κ rInR aInR := by
  intro H F v w x y d Q hs r1 r2 h k
  unfold aInR at h
  split at h
  · cases h
    exact ⟨_, _, Rep.isInt r1, Rep.isInt r2, k _ H F (Ext.refl hs) (.bl _)⟩
  · cases h
theorem ed_inR {x a : Expr} {o1 o2 : Opd} {p cpos : Pos} (hg : Gl X "range") (hm : X.mg "range" = none) (hx : PE X x (tOpd κ o1)) (ha : PE X a (tOpd κ o2)) (hs : starEach [a] X.env = [(false, eval a X.env)] := by rfl) :
    PE X (.Compare x [.In] [.Call (.Name "range" p) [a] [] cpos] pos) (tE κ (eOp2 aInR o1 o2)) := pe_of (pe_inR hg hm hx ha hs) fun _ _ _ q => op2_args d_inR q
end DL
/-! The data layer, 14: dicts whose keys are ints and texts: read, asked, put, walked. -/
namespace DL
open PySem L2 PyProof.Rows
variable {κ : Kx} {X : Cx} {e : Expr} {pos : Pos}
def keyOf : D → Option Key
  | .int i => some (.inl i)
  | .str s => some (.inr s)
  | _ => none
theorem keyOf_keyD (k : Key) : keyOf (keyD k) = some k := by cases k <;> rfl
/-- all keys are ints or texts -/
def allK (kvs : List (D × D)) : Bool := kvs.all fun kv => (keyOf kv.1).isSome
def dVal : List (D × D) → Key → Option D
  | [], _ => none
  | kv :: r, k => if keyOf kv.1 = some k then some kv.2 else dVal r k
def dHas (kvs : List (D × D)) (k : Key) : Bool := (dVal kvs k).isSome
def dPut (kvs : List (D × D)) (k : Key) (d : D) : List (D × D) := if dHas kvs k = true then kvs.map (fun kv => if keyOf kv.1 = some k then (kv.1, d) else kv) else kvs ++ [(keyD k, d)]
theorem RepKs.len {F : Hp} : ∀ {ps : List (Key × V)} {kvs : List (D × D)}, RepKs κ F ps kvs → ps.length = kvs.length
  | _, _, .nil => rfl
  | _, _, .cons _ q => by rw [List.length_cons, List.length_cons, q.len]
theorem RepKs.val {F : Hp} (k : Key) : ∀ {ps : List (Key × V)} {kvs : List (D × D)}, RepKs κ F ps kvs → (valV ps k = none ∧ dVal kvs k = none) ∨ ∃ v d, valV ps k = some v ∧ dVal kvs k = some d ∧ Rep κ F v d
  | _, _, .nil => .inl ⟨rfl, rfl⟩
  | _, _, .cons (k := k1) (v := v) (d := d) (vs := ps) (ds := kvs) r q => by
    by_cases e : k1 = k
    · refine .inr ⟨v, d, valV_pos e, ?_, r⟩
      show (if keyOf (keyD k1) = some k then some d else _) = _
      rw [keyOf_keyD, e, if_pos rfl]
    · have e1 : valV ((k1, v) :: ps) k = valV ps k := valV_neg e
      have e2 : dVal ((keyD k1, d) :: kvs) k = dVal kvs k := by
        show (if keyOf (keyD k1) = some k then some d else _) = _
        rw [keyOf_keyD, if_neg fun z => e (Option.some.inj z)]
      rw [e1, e2]
      exact q.val k
theorem RepKs.upd {F : Hp} {k : Key} {v : V} {d : D} (r : Rep κ F v d) : ∀ {ps : List (Key × V)} {kvs : List (D × D)}, RepKs κ F ps kvs →
    RepKs κ F (ps.map fun kv => if kv.1 = k then (kv.1, v) else kv) (kvs.map fun kv => if keyOf kv.1 = some k then (kv.1, d) else kv)
  | _, _, .nil => .nil
  | _, _, .cons (k := k1) r1 q => by
    rw [List.map_cons, List.map_cons]
    by_cases e : k1 = k
    · rw [if_pos e, if_pos (by rw [keyOf_keyD, e])]
      exact .cons r (q.upd r)
    · rw [if_neg e, if_neg (by rw [keyOf_keyD]; exact fun z => e (Option.some.inj z))]
      exact .cons r1 (q.upd r)
theorem RepKs.app {F : Hp} {k : Key} {v : V} {d : D} (r : Rep κ F v d) : ∀ {ps : List (Key × V)} {kvs : List (D × D)}, RepKs κ F ps kvs → RepKs κ F (ps ++ [(k, v)]) (kvs ++ [(keyD k, d)])
  | _, _, .nil => .cons r .nil
  | _, _, .cons r1 q => .cons r1 (q.app r)
theorem RepKs.put {F : Hp} {k : Key} {v : V} {d : D} {ps : List (Key × V)} {kvs : List (D × D)} (q : RepKs κ F ps kvs) (r : Rep κ F v d) : RepKs κ F (putK ps k v) (dPut kvs k d) := by
  unfold putK dPut dHas
  rw [valV_any]
  rcases q.val k with ⟨e1, e2⟩ | ⟨v1, d1, e1, e2, _⟩
  · rw [e1, e2]
    exact q.app r
  · rw [e1, e2]
    exact q.upd r
theorem DicAt.k {F : Hp} {o : HO} {kvs : List (D × D)} (h : DicAt κ F o kvs) (c : allK kvs = true) : ∃ ps, o = .dK ps ∧ RepKs κ F ps kvs := by
  rcases h with h | ⟨ps, rfl, q⟩
  · exact h
  · cases q with
    | one r => cases c
    | cons r q => cases c
theorem RepP.dict {H F : Hp} {v : V} {kvs : List (D × D)} (r : RepP κ H F v (.dict kvs)) (c : allK kvs = true) : ∃ a ps, v = .ref a ∧ Rd H a (.dK ps) ∧ RepKs κ F ps kvs := by
  rcases r with ⟨a, o, rfl, h1, h2⟩ | ⟨a, vs, xs, rfl, rfl, h1, h2⟩
  · obtain ⟨ps, rfl, q⟩ := h2.k c
    exact ⟨a, ps, rfl, h1, q⟩
  · cases c
theorem keyOf_kV {H F : Hp} {v : V} {y : D} {k : Key} (r : RepP κ H F v y) (h : keyOf y = some k) : v = kV k := by
  cases y with
  | int i => cases h; exact Rep.isInt r
  | str s => cases h; exact Rep.isStr r
  | _ => cases h
/-! d[y] -/
def rDIx : V → V → Hp → VK → Prop := fun x y H Q => ∃ a v, x = .ref a ∧ DGet H a y (some v) ∧ Q v H
def aDIx (x y : D) : Option D := match x with
  | .dict kvs => if allK kvs = true then (keyOf y).bind (dVal kvs) else none
  | _ => none
theorem d_dix : Op2 κ rDIx aDIx := by
  intro H F v u x y d Q hs r1 r2 h k
  unfold aDIx at h
  split at h
  · rename_i kvs
    split at h
    · rename_i c
      cases e : keyOf y with
      | none => rw [e] at h; cases h
      | some ky =>
        rw [e, Option.bind_some] at h
        obtain ⟨a, ps, rfl, h1, q⟩ := RepP.dict r1 c
        obtain rfl := keyOf_kV r2 e
        rcases q.val ky with ⟨_, e2⟩ | ⟨v1, d1, e1, e2, r⟩
        · rw [h] at e2; cases e2
        · rw [h] at e2
          cases e2
          exact ⟨a, v1, rfl, .inl ⟨ps, ky, h1, rfl, e1.symm⟩, k _ H F (Ext.refl hs) r⟩
    · cases h
  · cases h
theorem ed_dix {a b : Expr} {o1 o2 : Opd} (hu : X.A.units + 1 < cLine) (ha : PE X a (tOpd κ o1)) (hb : PE X b (tOpd κ o2)) (hs : NoSl b) : PE X (.Subscript a b pos) (tE κ (eOp2 aDIx o1 o2)) :=
  pe_of (pe_dget hu ha hb hs) fun _ _ _ q => op2_args d_dix q
/-! y in d, y not in d -/
def rDIn (f : Bool → Bool) : V → V → Hp → VK → Prop := fun y x H Q => ∃ a o, x = .ref a ∧ DGet H a y o ∧ Q (.bl (f o.isSome)) H
def aDIn (f : Bool → Bool) (y x : D) : Option D := match x with
  | .dict kvs => if allK kvs = true then (keyOf y).map fun k => .bool (f (dHas kvs k)) else none
  | _ => none
theorem d_din {f : Bool → Bool} : Op2 κ (rDIn f) (aDIn f) := by
  intro H F v u x y d Q hs r1 r2 h k
  unfold aDIn at h
  split at h
  · rename_i kvs
    split at h
    · rename_i c
      cases e : keyOf x with
      | none => rw [e] at h; cases h
      | some ky =>
        rw [e] at h
        cases h
        obtain ⟨a, ps, rfl, h1, q⟩ := RepP.dict r2 c
        obtain rfl := keyOf_kV r1 e
        refine ⟨a, valV ps ky, rfl, .inl ⟨ps, ky, h1, rfl, rfl⟩, k _ H F (Ext.refl hs) ?_⟩
        have : (valV ps ky).isSome = dHas kvs ky := by
          unfold dHas
          rcases q.val ky with ⟨e1, e2⟩ | ⟨v1, d1, e1, e2, r⟩ <;> rw [e1, e2] <;> rfl
        rw [this]
        exact .bl _
    · cases h
  · cases h
theorem ed_din {a b : Expr} {o1 o2 : Opd} (hu : X.A.units + 1 < cLine) (ha : PE X a (tOpd κ o1)) (hb : PE X b (tOpd κ o2)) (hm : behindInMarks .In b = false := by rfl) : PE X (.Compare a [.In] [b] pos) (tE κ (eOp2 (aDIn id) o1 o2)) :=
  pe_of (pe_cmp (pc_din hu ha hb) hm) fun _ _ _ q => op2_args (d_din (f := id)) q
theorem ed_dnotin {a b : Expr} {o1 o2 : Opd} (hu : X.A.units + 1 < cLine) (ha : PE X a (tOpd κ o1)) (hb : PE X b (tOpd κ o2)) (hm : behindInMarks .NotIn b = false := by rfl) : PE X (.Compare a [.NotIn] [b] pos) (tE κ (eOp2 (aDIn not) o1 o2)) :=
  pe_of (pe_cmp (pc_dnotin hu ha hb) hm) fun _ _ _ q => op2_args (d_din (f := not)) q
end DL
/-! The data layer, 15: dicts: empty ones, d.get(k, x), d[k] = v, for k in d. -/
namespace DL
open PySem L2 PyProof.Rows
variable {κ : Kx} {X : Cx} {e : Expr} {pos : Pos}
theorem room1 {k : Nat} {A : Around} (r : Room k A) : A.units + 1 < cLine := by have := r.un; omega
/-- {} -/
def eDct0 : E := fun env => some (.dict [], env)
theorem eo_dct0 : PE X (.Dict [] [] pos) (tO κ eDct0) := pe_of pe_dnewK fun σ H Q q => by
  obtain ⟨env, F, ad, d, env', I, hm, k⟩ := q
  cases hm
  intro p hp
  obtain ⟨x, fp⟩ := Ext.laid (o := HO.dK []) I.sub hp
  exact k p _ F ad (I.ext x) (Go.ext x) hp fp (fun kd q => I.fresh hp kd q) ⟨_, upd_same, .inl ⟨[], rfl, .nil⟩⟩
/-- d.get(k, x) -/
def eGetD (o : Opd) (mk mx : E) : E := fun env => (runOpd o env).bind fun a => match a.1.get a.2 with
  | some (.dict kvs0) => if allK kvs0 = true then (mk a.2).bind fun b => (mx b.2).bind fun c => match a.1.get c.2 with
      | some (.dict kvs) => if allK kvs = true then (keyOf b.1).map fun ky => ((dVal kvs ky).getD c.1, c.2) else none
      | _ => none else none
  | _ => none
theorem getD_args {o : Opd} {mk mx : E} {σ : L2.St} {H : Hp} {Q : VK} (q : tE κ (eGetD o mk mx) σ H Q) : tDGet2 (tOpd κ o) (tE κ mk) (tE κ mx) σ H Q := by
  obtain ⟨env, F, ad, d, env', I, hm, k⟩ := q
  unfold eGetD at hm
  cases e1 : runOpd o env with
  | none => rw [e1] at hm; cases hm
  | some a =>
    rw [e1, Option.bind_some] at hm
    split at hm
    · rename_i kvs0 e2
      split at hm
      · rename_i c0
        cases e3 : mk a.2 with
        | none => rw [e3] at hm; cases hm
        | some b =>
          rw [e3, Option.bind_some] at hm
          cases e4 : mx b.2 with
          | none => rw [e4] at hm; cases hm
          | some c =>
            rw [e4, Option.bind_some] at hm
            split at hm
            · rename_i kvs e5
              split at hm
              · rename_i c1
                cases e6 : keyOf b.1 with
                | none => rw [e6] at hm; cases hm
                | some ky =>
                  rw [e6] at hm
                  cases hm
                  refine ⟨env, F, ad, a.1, a.2, I, e1, fun v H1 F1 ad1 I1 g1 r1 => ?_⟩
                  obtain ⟨p, ps, rfl, h1, _⟩ := RepP.dict (r1.top I1 e2) c0
                  refine ⟨p, rfl, .inl ⟨ps, h1⟩, a.2, F1, ad1, b.1, b.2, I1, e3, fun w H2 F2 ad2 I2 g2 r2 => ?_⟩
                  refine ⟨b.2, F2, ad2, c.1, c.2, I2, e4, fun z H3 F3 ad3 I3 g3 r3 => ?_⟩
                  obtain ⟨p', ps', ep, h3, q3⟩ := RepP.dict ((r1.mono (g2.trans g3).sub).top I3 e5) c1
                  cases ep
                  obtain rfl := keyOf_kV (r2.top I2.sub) e6
                  refine ⟨valV ps' ky, .inl ⟨ps', ky, h3, rfl, rfl⟩, ?_⟩
                  have gg := (g1.trans g2).trans g3
                  rcases q3.val ky with ⟨x1, x2⟩ | ⟨v1, d1, x1, x2, rv⟩
                  · rw [x1]
                    rw [x2] at k
                    exact k z H3 F3 ad3 I3 gg r3
                  · rw [x1]
                    rw [x2] at k
                    exact k v1 H3 F3 ad3 I3 gg rv
              · cases hm
            · cases hm
      · cases hm
    · cases hm
theorem ed_getD {o : Opd} {mk mx : E} {a b c : Expr} {apos cpos : Pos} (hu : X.A.units + 1 < cLine) (ha : PE X a (tOpd κ o)) (hb : PE X b (tE κ mk)) (hc : PE X c (tE κ mx)) (m : M2 X a "get" apos b c cpos) :
    PE X (.Call (.Attribute a "get" apos) [b, c] [] cpos) (tE κ (eGetD o mk mx)) := pe_of (pe_dget2 hu ha hb hc m) fun _ _ _ q => getD_args q
/-- a dict that may be changed -/
def wDict (env : Env) (i : Nat) : Option (Kd × List (D × D)) := match env[i]? with
  | some (some (.m .rw kvs)) => some (.rw, kvs)
  | some (some (.m .own kvs)) => some (.own, kvs)
  | _ => none
theorem wDict_some {env : Env} {i : Nat} {k : Kd} {kvs : List (D × D)} (h : wDict env i = some (k, kvs)) : env[i]? = some (some (.m k kvs)) ∧ (k = .rw ∨ k = .own) := by
  unfold wDict at h
  split at h
  · rename_i xs' e; cases h; exact ⟨e, .inl rfl⟩
  · rename_i xs' e; cases h; exact ⟨e, .inr rfl⟩
  · cases h
/-- x[k] = v on a dict -/
def pSetM (i : Nat) (key : E) (val : E) : P := fun env => (val env).bind fun v => if (peek v.2 i).isSome = true then (key v.2).bind fun y => (keyOf y.1).bind fun ky => (wDict y.2 i).bind fun w =>
  if allK w.2 = true ∧ w.2.length < sizeLine then some (.nx, y.2.set i (some (.m w.1 (dPut w.2 ky v.1)))) else none else none
theorem sd_setM {i : Nat} {key val : E} {o ie : Expr} {pos' : Pos} (hu : X.A.units + 1 < cLine) (ho : PE X o (tVar i)) (hi : PE X ie (tE κ key)) (hv : PE X e (tE κ val)) (hs : swapsWith e (some (.Subscript o ie pos')) pos.line X.env = pure false := by rfl) :
    PS X (.Assign [.Subscript o ie pos'] e pos) (tS κ (pSetM i key val)) :=
  ps_of (ps_dput hu ho hi hv hs) fun Ds σ H q => by
    obtain ⟨env, F, ad, oo, env', I, hm, k⟩ := q
    unfold pSetM at hm
    cases e1 : val env with
    | none => rw [e1] at hm; cases hm
    | some v =>
      obtain ⟨dv, env1⟩ := v
      rw [e1, Option.bind_some] at hm
      by_cases hps : (peek env1 i).isSome = true
      · rw [if_pos hps] at hm
        cases e2 : key env1 with
        | none => rw [e2] at hm; cases hm
        | some y =>
          obtain ⟨dy, env2⟩ := y
          rw [e2, Option.bind_some] at hm
          cases e3 : keyOf dy with
          | none => rw [e3] at hm; cases hm
          | some ky =>
            rw [e3, Option.bind_some] at hm
            cases e4 : wDict env2 i with
            | none => rw [e4] at hm; cases hm
            | some w =>
              obtain ⟨kd, kvs⟩ := w
              rw [e4, Option.bind_some] at hm
              split at hm
              · rename_i c
                cases hm
                refine ⟨env, F, ad, dv, env1, I, e1, fun v H1 F1 ad1 I1 g1 r1 => ?_⟩
                obtain ⟨w, hw⟩ := I1.isSome hps
                refine ⟨w, hw, env1, F1, ad1, dy, env2, I1, e2, fun iv H2 F2 ad2 I2 g2 r2 => ?_⟩
                obtain ⟨e5, hk⟩ := wDict_some e4
                obtain ⟨hσ, hf, ob, hv, hd⟩ := I2.slot i _ e5
                have hv : H2 (ad2 i) = some ob := by rcases hk with rfl | rfl <;> exact hv
                obtain ⟨ps, rfl, rr⟩ := hd.k c.1
                rw [hw] at hσ
                cases hσ
                obtain rfl := keyOf_kV (Rep.top I2.sub r2) e3
                obtain ⟨I3, g3⟩ := I2.write (s' := .m kd (dPut kvs ky dv)) (o := .dK (putK ps ky v)) e5 (by rcases hk with rfl | rfl; exact .inl rfl; exact .inr rfl) rfl (fun _ z => by cases z)
                  ⟨hw, hf, _, by rcases hk with rfl | rfl <;> exact upd_same, .inl ⟨_, rfl, rr.put (r1.mono g2.sub)⟩⟩
                exact ⟨ad2 i, _, rfl, .inl ⟨ps, ky, hv, rfl, by rw [rr.len]; exact c.2, rfl⟩, k σ _ F2 ad2 I3 ((g1.trans g2).trans g3)⟩
              · cases hm
      · rw [if_neg hps] at hm; cases hm
/-- for k in d -/
def iKeysD (m : E) : I := fun env => (m env).bind fun a => match a.1 with
  | .dict kvs => if allK kvs = true then some (kvs.map (·.1), a.2) else none
  | _ => none
theorem RepKs.get {F : Hp} : ∀ {ps : List (Key × V)} {kvs : List (D × D)} {i : Nat} {k : Key} {v : V}, RepKs κ F ps kvs → ps[i]? = some (k, v) → (kvs.map (·.1))[i]? = some (keyD k)
  | _, _, i, k, v, .nil, h => by simp at h
  | _, _, 0, k, v, .cons r q, h => by
    simp at h
    simp [h.1]
  | _, _, i + 1, k, v, .cons r q, h => by
    have := q.get (i := i) (k := k) (v := v) (by simpa using h)
    simpa using this
theorem Rep.key {F : Hp} (k : Key) : Rep κ F (kV k) (keyD k) := by
  cases k with
  | inl i => exact .int i
  | inr s => exact .str s
theorem keys_ok {env : Env} {H1 F1 : Hp} {ad : Nat → Addr} {a : Addr} {od : Obj} {ps : List (Key × V)} {kvs : List (D × D)} (h : F1 a = some (.frz od (.dK ps))) (q : RepKs κ F1 ps kvs) :
    ItOk κ (Itk a od ps) (kvs.map (·.1)) (Later env H1 F1 ad) := by
  have st : ∀ H F, Later env H1 F1 ad H F → H a = some (.frz od (.dK ps)) := fun H F l => by
    obtain ⟨s, env2, ad2, g⟩ := l
    rcases s a _ (g.mono a _ h) with z | ⟨z, _⟩
    · exact z
    · exact False.elim z
  have ln : ps.length = (kvs.map (·.1)).length := by rw [List.length_map]; exact q.len
  refine ⟨fun H F l => ⟨st H F l, by omega⟩, fun i H F hi l => ⟨st H F l, by omega⟩, fun i H F x H' hi l y => ?_⟩
  obtain ⟨rfl, k, v, e1, rfl⟩ := y
  exact ⟨F, _, q.get e1, Ext.refl l.1, Rep.key k⟩
theorem it_keysD {tg : Expr} {m : E} (hκ : κ.K = X.K) (ha : PE X e (tE κ m)) : PI X tg e (tI κ (iKeysD m)) :=
  pi_of (pi_keys ha) fun σ H R q => by
    obtain ⟨env, F, ad, rs, env', I, h, k⟩ := q
    unfold iKeysD at h
    cases e1 : m env with
    | none => rw [e1] at h; cases h
    | some r =>
      obtain ⟨d, env1⟩ := r
      rw [e1, Option.bind_some] at h
      split at h
      · rename_i kvs ek
        split at h
        · rename_i c
          cases h
          refine ⟨env, F, ad, _, _, I, e1, fun v H1 F1 ad1 I1 g1 r1 => ?_⟩
          have ek : d = .dict kvs := ek
          subst ek
          rcases r1.isDic with ⟨a, o, rfl, ⟨od, h1⟩, h2⟩ | ⟨a, vs, xs, rfl, rfl, h1, h2⟩
          · obtain ⟨ps, rfl, q⟩ := h2.k c
            have hh : H1 a = some (.frz od (.dK ps)) := by
              rcases I1.sub a _ h1 with z | ⟨z, _⟩
              · exact z
              · exact False.elim z
            exact ⟨a, od, rfl, .inl ⟨ps, hh, k _ H1 F1 ad1 I1 g1 (keys_ok h1 q)⟩⟩
          · cases c
        · cases h
      · cases h
end DL
/-! The data layer, 16: max(xs, default=d), min(xs, default=d). -/
namespace DL
open PySem L2 PyProof.Rows
variable {κ : Kx} {X : Cx} {e a : Expr} {pos : Pos}
theorem room64 {k : Nat} {A : Around} (r : Room k A) : A.units + 64 < cLine := by have := r.un; omega
def rBestD (K : PySem.W.Frag) (f : D → List D → D) : List V → List V → Hp → VK → Prop := fun vs zs H Q => ∃ (a : Addr) (ps : List (V × PyData)) (d : V), vs = [V.ref a] ∧ zs = [d] ∧ SqL K H a (ps.map (·.1)) ∧ (∀ p ∈ ps, Dp K H p.1 p.2) ∧
  PySem.W.AlikeAll (ps.map Prod.snd) ∧ PyData.depthAll (ps.map Prod.snd) ≤ 60 ∧ (ps = [] → Q d H) ∧ ∀ x xs, ps.map Prod.snd = x :: xs → ∀ p ∈ ps, p.2 = f x xs → Q p.1 H
theorem cr_maxD (hc : X.calm = true) (hu : X.A.units + 64 < cLine) : CallRK X (.builtin "max") [Str.ofString "default"] (rBestD X.K PySem.W.maxD) := by
  intro pins s σ H vs zs us ws Q I r rz h
  obtain ⟨a, ps, d, rfl, rfl, hs, hd, ha, hz, q0, q⟩ := h
  obtain ⟨its, rv, hl, _⟩ := I.list hs
  rw [Vals.ref1 r]
  obtain ⟨w1, rfl, rd⟩ := vals1 rz
  have hdp := dpAll_of hd
  obtain ⟨as, hr⟩ := Dp.readsAll I _ _ _ hdp rv
  refine PySem.W.max_list_default (I.ok.hd hc) hl.isList (by simpa using hr) ha (by omega) (fun e h' tk hk => ?_) fun y ys i v h' tk bs exs hi rm hk => ?_
  · exact ⟨d, H, I.kept hk, rd, q0 (List.map_eq_nil_iff.mp e)⟩
  · rw [exs] at hr ha
    obtain ⟨p, hpm, rel, e⟩ := best_at rv exs hr ha hi rm (fold_mem (fun y z => PySem.W.dataLt z y) ys y) hk
    exact ⟨p.1, H, I.kept hk, rel, q y ys exs p hpm e⟩
def eBestD (f : D → List D → D) (o : Opd) (mx : E) : E := fun env => (runOpd o env).bind fun a => (mx a.2).bind fun c => match a.1.get c.2 with
  | some (.list []) => some (c.1, c.2)
  | some (.list (x :: xs)) => (aBest f [.list (x :: xs)]).map fun d => (d, c.2)
  | _ => none
theorem bestD_args {f : D → List D → D} {o : Opd} {mx : E} {σ : L2.St} {H : Hp} {Q : VK} (q : tE κ (eBestD f o mx) σ H Q) : tCKw (rBestD κ.K f) (tCons (tOpd κ o) tNil) (tCons (tE κ mx) tNil) σ H Q := by
  obtain ⟨env, F, ad, d, env', I, hm, k⟩ := q
  unfold eBestD at hm
  cases e1 : runOpd o env with
  | none => rw [e1] at hm; cases hm
  | some a =>
    rw [e1, Option.bind_some] at hm
    cases e2 : mx a.2 with
    | none => rw [e2] at hm; cases hm
    | some c =>
      rw [e2, Option.bind_some] at hm
      refine ⟨env, F, ad, a.1, a.2, I, e1, fun v H1 F1 ad1 I1 g1 r1 => ?_⟩
      refine ⟨a.2, F1, ad1, c.1, c.2, I1, e2, fun z H2 F2 ad2 I2 g2 r2 => ?_⟩
      have gg := g1.trans g2
      split at hm
      · rename_i e3
        cases hm
        obtain ⟨p, vs, rfl, h1, rr⟩ := (r1.mono g2.sub).top I2 e3
        cases rr
        exact ⟨p, [], z, rfl, rfl, .inl h1, (fun p hp => by cases hp), ⟨fun _ h => (by cases h), fun _ h => (by cases h)⟩, Nat.zero_le _, fun _ => k z H2 F2 ad2 I2 gg r2, fun x xs e => by cases e⟩
      · rename_i x xs e3
        cases e4 : aBest f [.list (x :: xs)] with
        | none => rw [e4] at hm; cases hm
        | some d' =>
          rw [e4] at hm
          cases hm
          have top := (r1.mono g2.sub).top I2 e3
          obtain ⟨p, ps, x', xs', hv, h1, h2, h3, h4, h5, h6⟩ := n_best (κ := κ) (f := f) H2 F2 [v] [.list (x :: xs)] d Q I2.sub (.cons top .nil) e4 fun w H' F' xt rw' => k w H' F' ad2 (I2.ext xt) (gg.trans (Go.ext xt)) rw'
          cases hv
          refine ⟨p, ps, z, rfl, rfl, h1, h2, by rw [h3]; exact h4, by rw [h3]; exact h5, fun e => (by rw [e] at h3; cases h3), fun y ys e => ?_⟩
          rw [h3] at e
          cases e
          exact h6
      · cases hm
theorem ed_maxD {o : Opd} {mx : E} {p p2 : Pos} {dx : Expr} (hκ : κ.K = X.K) (hc : X.calm = true) (hu : X.A.units + 64 < cLine) (hg : Gl X "max") (hm : X.mg "max" = none) (ha : PE X a (tOpd κ o)) (hx : PE X dx (tE κ mx))
    (hs : starEach [a] X.env = (false, eval a X.env) :: starEach [] X.env := by rfl)
    (hv : bootBuiltins ("max" : Str) = some (.builtin "max") := by decide +kernel)
    (he : backTo pos (starEach [a] X.env) = (false, eval a X.env) :: backTo pos (starEach [] X.env) := by rfl) (hpl : (backTo pos (starEach [a] X.env)).any (·.1) = false := by rfl) :
    PE X (.Call (.Name "max" p) [a] [⟨some (Str.ofString "default"), dx, p2⟩] pos) (tE κ (eBestD PySem.W.maxD o mx)) :=
  pe_of (pe_callBK (ks := [Str.ofString "default"]) (cr_maxD hc hu) hg hm hv (pa_cons ha pa_nil hs) (pk_cons hx pk_nil) (by decide) (by decide) he hpl) fun _ _ _ q => by
    have := bestD_args q
    rw [hκ] at this
    exact this
end DL
/-! The data layer, 17: a text so many times. -/
namespace DL
open PySem L2 PyProof.Rows
variable {κ : Kx} {X : Cx}
def repS (x : Str) (n : Int) : Str := Txt.mul x n
def aMulS : D → D → Option D
  | .int i, .int j => aMulI (.int i) (.int j)
  | .str x, .int n => if x.length ≤ 1000 ∧ 0 ≤ n ∧ n ≤ 10000 then some (.str (repS x n)) else none
  | _, _ => none
def rMulS : R2 := fun x y H Q => ∃ i j, x = .str i ∧ y = .int j ∧ (i.length ≤ 1000 ∧ 0 ≤ j ∧ j ≤ 10000) ∧ Q (.str (repS i j)) H
def rMulA : R2 := fun x y H Q => rI (fun i j => mulFits i j = true) (fun i j => .int (i * j)) x y H Q ∨ rMulS x y H Q
theorem op_mulS0 : OpR X (binaryOp .Mult) rMulS := by
  intro pins s σ H x y v u Q I rx ry h
  obtain ⟨i, j, rfl, rfl, hz, q⟩ := h
  obtain ⟨t, rfl⟩ := rx
  obtain ⟨t', rfl⟩ := ry
  exact SB.mul (PyProof.Rows.mulOk_of 1000 10000 hz.1 (by omega) (by omega) (by decide) (by decide)) fun t' tk => ⟨.str (repS i j), H, I.tok _, ⟨_, rfl⟩, q⟩
theorem op_mulS : OpR X (binaryOp .Mult) rMulA := opr_or op_mulB op_mulS0
theorem d_mulS : Op2 κ rMulA aMulS := by
  intro H F v u x y d Q hs rx ry hf k
  cases x with
  | int i =>
    cases y with
    | int j => exact .inl (d_mulI H F v u _ _ d Q hs rx ry hf k)
    | _ => cases hf
  | str i =>
    cases y with
    | int j =>
      obtain rfl := Rep.isStr rx
      obtain rfl := Rep.isInt ry
      simp only [aMulS] at hf
      split at hf
      · rename_i hz
        cases hf
        exact .inr ⟨i, j, rfl, rfl, hz, k _ _ _ (Ext.refl hs) (.str _)⟩
      · cases hf
    | _ => cases hf
  | _ => cases hf
end DL
/-! The data layer, 18: texts joined; {k: v}. -/
namespace DL
open PySem L2 PyProof.Rows
variable {κ : Kx} {X : Cx} {e : Expr} {pos : Pos}
def strsD : List D → Option (List Str)
  | [] => some []
  | .str s :: ds => (strsD ds).map fun r => s :: r
  | _ => none
theorem strsD_map : ∀ ys : List Str, strsD (ys.map .str) = some ys
  | [] => rfl
  | y :: ys => by show (strsD (ys.map .str)).map _ = _; rw [strsD_map ys]; rfl
theorem strsD_reps {F : Hp} : ∀ {ds : List D} {ys : List Str} {vs : List V}, strsD ds = some ys → Reps κ F vs ds → vs = ys.map V.str
  | [], ys, vs, h, r => by cases h; cases r; rfl
  | d :: ds, ys, vs, h, r => by
    cases r with
    | cons r1 r2 =>
      cases d with
      | str s =>
        cases e : strsD ds with
        | none => simp [strsD, e] at h
        | some r =>
          simp only [strsD, e, Option.map_some] at h
          cases h
          rw [Rep.isStr r1, strsD_reps e r2]
          rfl
      | _ => cases h
/-! sep.join(texts) -/
def eJoin (sep : Str) (m : E) : E := fun env => (m env).bind fun a => match a.1 with
  | .list ds => (strsD ds).bind fun ys => if (ys.map (·.length)).sum + ys.length * sep.length ≤ 16777216 then some (.str (Txt.join sep ys), a.2) else none
  | _ => none
theorem ed_join {sep : Str} {m : E} {k : Nat} {p apos : Pos} (he : PE X e (tE κ m)) (hs : starEach [e] X.env = [(false, eval e X.env)] := by rfl)
    (hbase : attributeBase (.Constant (.str sep) k p) "join" X.env (eval (.Constant (.str sep) k p) X.env) = eval (.Constant (.str sep) k p) X.env := by rfl) (hline : (apos.endLine == pos.line) = true := by rfl) :
    PE X (.Call (.Attribute (.Constant (.str sep) k p) "join" apos) [e] [] pos) (tE κ (eJoin sep m)) :=
  pe_of (pe_join pe_str he hs hbase hline) fun σ H Q q => by
    obtain ⟨env, F, ad, d, env', I, hm, kk⟩ := q
    unfold eJoin at hm
    cases e1 : m env with
    | none => rw [e1] at hm; cases hm
    | some a =>
      obtain ⟨da, env1⟩ := a
      rw [e1, Option.bind_some] at hm
      refine ⟨⟨sep, rfl⟩, env, F, ad, da, env1, I, e1, fun v H1 F1 ad1 I1 g1 r1 => ?_⟩
      cases da with
      | list ds =>
        cases e2 : strsD ds with
        | none => simp [e2] at hm
        | some ys =>
          simp only [e2, Option.bind_some] at hm
          split at hm
          · rename_i hz
            cases hm
            obtain ⟨p, vs, rfl, h1, r⟩ := r1.isLst
            obtain rfl := strsD_reps e2 r
            exact ⟨sep, p, ys, rfl, rfl, .inl (.inl (I1.sub.rd h1)), hz, kk _ H1 F1 ad1 I1 g1 (.str _)⟩
          · cases hm
      | _ => cases hm
/-! {k: v} -/
theorem Go.away {env env' : Env} {H H' F F' : Hp} {ad ad' : Nat → Addr} {p : Addr} {o : HO} (g : Go env H F ad env' H' F' ad') (h : H p = some o) (hf : F p = none) (ht : ∀ vs, o ≠ .tup vs) (hn : ∀ k, ¬ At k env ad p) :
    H' p = some o ∧ F' p = none ∧ ∀ k, ¬ At k env' ad' p := by
  refine ⟨g.keep p _ h (hn _) (hn _), ?_, fun k q => ?_⟩
  · cases e : F' p with
    | none => rfl
    | some u =>
      rcases g.new p (by rw [e]; simp) with q | q | q | ⟨ws, q⟩
      · exact absurd hf q
      · rw [h] at q; cases q
      · exact absurd q (hn _)
      · rw [h] at q; exact absurd (Option.some.inj q) (ht ws)
  · have br : k = .rw ∨ k = .ro → False := fun hk => by
      obtain ⟨i, s, e, hs, ea⟩ := q
      obtain ⟨s0, q1, q2, q3, _⟩ := g.brw i s e (by rcases hk with rfl | rfl <;> first | exact .inl hs | exact .inr hs)
      exact hn k ⟨i, s0, q1, (S.shape_rw q2 k).mpr hs, q3 ▸ ea⟩
    cases k with
    | rw => exact br (.inl rfl)
    | ro => exact br (.inr rfl)
    | own =>
      rcases g.own p q with q | q
      · exact hn _ q
      · rw [h] at q; cases q
def eDct1 (mk mv : E) : E := fun env => (mk env).bind fun a => (keyOf a.1).bind fun ky => (mv a.2).bind fun b => some (.dict [(keyD ky, b.1)], b.2)
theorem eo_dct1 {mk mv : E} {ke ve : Expr} (hk : PE X ke (tE κ mk)) (hv : PE X ve (tE κ mv)) : PE X (.Dict [some ke] [ve] pos) (tO κ (eDct1 mk mv)) :=
  pe_of (pe_disp (pps_cons hk hv pps_nil) rfl rfl (by simp) (by simp)) fun σ H Q q => by
    obtain ⟨env, F, ad, d, env', I, hm, kk⟩ := q
    unfold eDct1 at hm
    cases e1 : mk env with
    | none => rw [e1] at hm; cases hm
    | some a =>
      obtain ⟨da, env1⟩ := a
      rw [e1, Option.bind_some] at hm
      cases e2 : keyOf da with
      | none => rw [e2] at hm; cases hm
      | some ky =>
        rw [e2, Option.bind_some] at hm
        cases e3 : mv env1 with
        | none => rw [e3] at hm; cases hm
        | some b =>
          obtain ⟨db, env2⟩ := b
          rw [e3, Option.bind_some] at hm
          cases hm
          intro p hp
          obtain ⟨x, fp⟩ := Ext.laid (o := HO.dK []) I.sub hp
          have nt : ∀ vs, HO.dK [] ≠ .tup vs := fun vs z => by cases z
          refine ⟨env, F, ad, da, env1, I.ext x, e1, fun v H1 F1 ad1 I1 g1 r1 => ?_⟩
          obtain ⟨a1, a2, a3⟩ := g1.away upd_same fp nt fun kd q => I.fresh hp kd q
          refine ⟨env1, F1, ad1, db, env2, I1, e3, fun w H2 F2 ad2 I2 g2 r2 => ?_⟩
          obtain ⟨b1, b2, b3⟩ := g2.away a1 a2 nt a3
          refine ⟨b1, [(ky, w)], ?_, by simp, ?_⟩
          · rw [keyOf_kV (r1.top I1.sub) e2]; rfl
          · have gg := (((Go.ext (ad := ad) (env := env) x).trans g1).trans g2).out (o := .dK (mergeK [] [(ky, w)])) hp fun vs z => by cases z
            exact kk p _ F2 ad2 (I2.out b2 b3) gg hp b2 b3 ⟨_, upd_same, .inl ⟨_, rfl, .cons r2 .nil⟩⟩
end DL
/-! The data layer, 19: len(set(a list of texts)): set on a list of texts of any length, on the pattern of the library's own for numbers. -/
namespace DL
open PySem PySem.Spec PyProof.Rows
def addT (z : List Str) (v : Str) : List Str := if z.any (· == v) = true then z else z ++ [v]
def metT (f : Nat → Str) (i : Nat) : List Str := ((List.range i).map f).foldl addT []
theorem metT_succ (f : Nat → Str) (i : Nat) : metT f (i + 1) = addT (metT f i) (f i) := by
  unfold metT; rw [List.range_succ, List.map_append, List.foldl_append]; rfl
theorem addT_any (z : List Str) (v k : Str) : (addT z v).any (· == k) = (z.any (· == k) || decide (k = v)) := by
  unfold addT
  by_cases c : z.any (· == v) = true
  · rw [if_pos c]
    by_cases d : k = v
    · rw [d, c]; simp
    · simp [d]
  · rw [if_neg c, List.any_append]
    by_cases d : k = v
    · subst d; simp
    · have d' : (v == k) = false := beq_eq_false_iff_ne.mpr fun x => d x.symm
      simp [d, d']
theorem addT_len (z : List Str) (v : Str) : (addT z v).length = if z.any (· == v) = true then z.length else z.length + 1 := by
  unfold addT; split <;> simp
theorem metT_le (f : Nat → Str) : ∀ i, (metT f i).length ≤ i
  | 0 => Nat.le_refl _
  | i + 1 => by
    rw [metT_succ, addT_len]
    have := metT_le f i
    split <;> omega
section
variable {pg : Program} {wo : World} {B : Around} {Z : Result → Shared → Prop} {it : Addr} {fp ws : List Addr} {Gn : Array GenState → Array GenState → Prop} {n : Nat} {Pv : Nat → Value → Prop} {Tt : Nat → Shared → Prop}
theorem loopT (W : WalksS pg wo B.in1 it fp ws Gn n Pv Tt) (D : Addr) (nf : D ∉ fp) (f : Nat → Str) (big : n + 1 < scanBound) (vals : ∀ i v, Pv i v → ∃ t, v = .str (f i) t) : ∀ (left i : Nat) (z : Shared), n - i = left → i ≤ n → Tt i z →
    z.heap.SetOf (PySem.strKind pg wo) D (fun y => (metT f i).any (· == y)) (metT f i).length →
    (∀ z', Moved (D :: ws) Gn z z' → z'.heap.SetOf (PySem.strKind pg wo) D (fun y => (metT f n).any (· == y)) (metT f n).length → Z (.ok (.ret .none)) z') →
    codeAny (model pg wo) B (.builtin "set.update.loop" ⟨[.ref D, .ref it], []⟩) Z z := by
  have nw : D ∉ ws := fun q => nf (W.sub _ q)
  have up : ∀ b ∈ ws, b ∈ D :: ws := fun b q => List.mem_cons_of_mem _ q
  intro left
  induction left with
  | zero =>
    intro i z el hi st so fin
    obtain rfl : i = n := by omega
    refine codeAny_builtin PyProof.Rows.F.entry_set_update_loop ?_
    rw [Around.under_plainId PyProof.Rows.F.plain_set_update_loop _]
    show wpAny _ B.in1 (pyNext (.ref it) >>= _) _ _ z
    refine wpAny_bind (W.done z _ _ st fun z' mv => ?_)
    show wpAny _ B.in1 (ret Value.none) _ _ z'
    refine wpAny_pure (fin z' (mv.mono up) ?_)
    obtain ⟨o, es, ep, t, go, more⟩ := so
    exact ⟨o, es, ep, t, mv.heap D _ nw go, more⟩
  | succ left ih =>
    intro i z el hi st so fin
    have lt : i < n := by omega
    refine codeAny_builtin PyProof.Rows.F.entry_set_update_loop ?_
    rw [Around.under_plainId PyProof.Rows.F.plain_set_update_loop _]
    show wpAny _ B.in1 (pyNext (.ref it) >>= _) _ _ z
    refine wpAny_bind (W.item i z _ _ lt st fun v z' pv st' mv => ?_)
    obtain ⟨t, rfl⟩ := vals i v pv
    have so' : z'.heap.SetOf (PySem.strKind pg wo) D (fun y => (metT f i).any (· == y)) (metT f i).length := by
      obtain ⟨o, es, ep, tb, go, more⟩ := so
      exact ⟨o, es, ep, tb, mv.heap D _ nw go, more⟩
    show wpAny _ B.in1 (holding [Value.str (f i) t] (setAdd D (.str (f i) t)) >>= _) _ _ z'
    refine wpAny_bind (wpAny_holding ?_)
    unfold setAdd
    refine wpAny_holding ?_
    refine wpAny_bind ((PySem.strKind pg wo).pyHash (k := f i) (strKind_is _ _ _ _) ?_)
    refine wpAny_setAddHashed_of (knd := PySem.strKind pg wo) (s := { z' with toks := z'.toks + 1 }) (strKind_is _ _ _ _) rfl so' (by have := metT_le f i; omega) fun hp' only more => ?_
    have so2 : hp'.SetOf (PySem.strKind pg wo) D (fun y => (metT f (i + 1)).any (· == y)) (metT f (i + 1)).length :=
      PyProof.Rows.SetOf_congr more (fun y => by rw [metT_succ, addT_any]) (by rw [metT_succ, addT_len])
    refine wpAny_pure ⟨plainId_quiet PyProof.Rows.F.plain_set_update_loop _, ih (i + 1) _ (by omega) lt (W.frame _ z' _ _ st' (Nat.le_succ _) fun b q o e => ?_) so2 fun z'' mv'' so'' => ?_⟩
    · rw [only.2 b (fun e2 : b = D => nf (e2 ▸ q))]; exact e
    · refine fin z'' (Moved.trans W.gtrans ((mv.mono up).then_heap (Nat.le_succ _) fun b o q e => ?_) mv'') so''
      rw [only.2 b (fun e2 : b = D => q (by rw [e2]; exact List.mem_cons_self))]; exact e
end
section
variable {pg : Program} {wo : World} {B : Around} {Ex : Value → Shared → Prop} {z : Shared}
set_option maxHeartbeats 3200000 in
theorem call_setT {l : Addr} {its : Array Value} {xs : List Str} {Q : Value → Shared → Prop} (calm : B.handled = none) (isl : z.heap.IsList l its) (txs : PyProof.Rows.StrsAre its.toList xs) (big : its.size + 1 < scanBound)
    (fin : ∀ (hp' : Heap) (tk : Nat), hp'.SetOf (PySem.strKind pg wo) z.heap.objs.size (fun y => (metT (fun i => xs.getD i Str.empty) its.size).any (· == y)) (metT (fun i => xs.getD i Str.empty) its.size).length →
      (∀ b o, b < z.heap.objs.size → z.heap.get? b = some o → hp'.get? b = some o) → Q (.ref z.heap.objs.size) { z with heap := hp', toks := tk }) : wpAny (model pg wo) B (call (.type "set") [.ref l]) Q Ex z := by
  obtain ⟨c, tl, mro⟩ := PySem.F.called_set.mro
  have made := PySem.F.called_set.made
  have sub0 := PySem.F.called_set.sub
  refine wpAny_call (codeAny_of_tree ?_)
  show wpAny _ _ (callAny (.type "set") _) _ _ _
  refine wpAny_pure ⟨Code.quiet_builtin _ (by decide +kernel), codeAny_builtin PySem.F.entry_type_call ?_⟩
  rw [Around.under_plain (weight_type_call_type "set" [.ref l] []) rfl]
  have t1 := PySem.F.called_set.notType
  have t2 := PySem.F.called_set.canCreate
  have t3 := PySem.F.typeCall_set_1 (.ref l)
  repeat (any_goals (first | assumption | wp_step))
  refine codeAny_mono (code_set_new_1 (.ref l) (E := Ex) (Q₁ := fun ob z1 => ∃ led : Bool, ob = .ref z.heap.objs.size ∧ z1 = { z with heap := z.heap.push { cls := .type "set", dict := none, data := .set #[] 0 (.fresh 0 0 led) } }) fun led => ⟨led, rfl, rfl⟩) fun r z1 hr => ?_
  cases r with
  | error e => exact hr
  | ok fl =>
    cases fl with
    | ret ob =>
      obtain ⟨led, rfl, rfl⟩ := hr
      have at0 : (z.heap.push { cls := .type "set", dict := none, data := .set #[] 0 (.fresh 0 0 led) }).get? z.heap.objs.size = some { cls := .type "set", dict := none, data := .set #[] 0 (.fresh 0 0 led) } := Heap.get?_push_size _ rfl
      have ty0 : Shared.TypeIs { z with heap := z.heap.push { cls := .type "set", dict := none, data := .set #[] 0 (.fresh 0 0 led) } } (.ref z.heap.objs.size) "set" := ⟨_, at0, rfl⟩
      have i1 := PySem.F.called_set.init.lookup
      have i2 := PySem.F.called_set.init.bind (.ref z.heap.objs.size)
      repeat (any_goals (first | assumption | wp_step))
      refine codeAny_mono (codeAny_call_builtin (R := wants (fun r z2 => r = .none ∧ ∃ hp' tk, z2 = { z with heap := hp', toks := tk } ∧
          hp'.SetOf (PySem.strKind pg wo) z.heap.objs.size (fun y => (metT (fun i => xs.getD i Str.empty) its.size).any (· == y)) (metT (fun i => xs.getD i Str.empty) its.size).length ∧
          (∀ b o, b < z.heap.objs.size → z.heap.get? b = some o → hp'.get? b = some o)) Ex) PySem.F.called_set.init.plain PySem.F.entry_set_init (check_set_init_1 ty0 ?_)) fun r2 z2 hr2 => ?_
      · obtain ⟨ol, gol, cl, nl, dl⟩ := isl
        obtain ⟨oc, od, oa, os⟩ := ol
        simp only at cl dl
        subst cl; subst dl
        have gol' : (z.heap.push { cls := .type "set", dict := none, data := .set #[] 0 (.fresh 0 0 led) }).get? l = some { cls := .type "list", dict := od, data := .seq its nl, slots := os } := Heap.get?_push_of_some _ gol
        have n1 := PySem.F.sub_list_set
        have n2 := PySem.F.sub_list_frozenset
        have n3 : (Value.type "list" == Value.type "dict") = false := by decide
        have isl1 : (z.heap.push { cls := .type "set", dict := none, data := .set #[] 0 (.fresh 0 0 led) }).IsList l its := ⟨_, gol', rfl, nl, rfl⟩
        unfold Builtin.«set.__init__» noKeywords Builtin.Frozenset.updateFrom
        generalize ePI : pyIter = PI
        wp_walk
        subst ePI
        refine wpAny_pyIter_list isl1 ?_
        refine wpAny_bind (wpAny_runValue ?_)
        have ll : l < z.heap.objs.size := Heap.lt_size gol
        have calm3 : B.in1.in1.in1.handled = none := by simp [calm]
        have away : l ≠ (z.heap.push { cls := .type "set", dict := none, data := .set #[] 0 (.fresh 0 0 led) }).objs.size := by
          rw [Heap.size_push]; exact Nat.ne_of_lt (Nat.lt_succ_of_lt ll)
        have nofp : z.heap.objs.size ∉ [(z.heap.push { cls := .type "set", dict := none, data := .set #[] 0 (.fresh 0 0 led) }).objs.size, l] := by
          rw [Heap.size_push]; simp only [List.mem_cons, List.not_mem_nil, or_false, not_or]
          exact ⟨Nat.ne_of_lt (Nat.lt_succ_self _), Nat.ne_of_gt ll⟩
        refine loopT ((Walks.list calm3 _ l away its).toS) z.heap.objs.size nofp (fun i => xs.getD i Str.empty) big (fun i v hv => SS.strs_at txs i v (by rw [Array.getElem?_toList]; exact hv)) (its.size - 0) 0 _ (by omega) (Nat.zero_le _)
          ⟨⟨_, Heap.get?_push_size _ rfl, rfl, rfl⟩, (isl1.push _)⟩ ?first ?last
        case first =>
          have at1 : ((z.heap.push { cls := .type "set", dict := none, data := .set #[] 0 (.fresh 0 0 led) }).push { cls := .type "list_iterator", data := .fields #[.ref l, .int 0 0] }).get? z.heap.objs.size
              = some { cls := .type "set", dict := none, data := .set #[] 0 (.fresh 0 0 led) } := Heap.get?_push_of_some _ at0
          exact PyProof.Rows.SetOf_congr ((PyProof.Rows.setObjOf_fresh (knd := PySem.strKind pg wo) led).setOf at1 (by unfold scanBound; omega)) (fun _ => rfl) rfl
        case last =>
          intro z' mv so'
          obtain ⟨hp', g', d', tk', os'⟩ := z'
          have q1 : g' = z.gens := mv.gens
          have q2 : d' = z.drawn := mv.drawn
          have q3 : os' = z.os := mv.os
          subst q1; subst q2; subst q3
          show wpAny _ _ _ _ _ _
          refine wpAny_pure ?_
          show wpAny _ _ (ret Value.none) _ _ _
          refine wpAny_pure ⟨rfl, hp', tk', rfl, so', fun b o lb e => ?_⟩
          have b1 : b ≠ z.heap.objs.size := Nat.ne_of_lt lb
          have b2 : b ≠ (z.heap.push { cls := .type "set", dict := none, data := .set #[] 0 (.fresh 0 0 led) }).objs.size := by
            rw [Heap.size_push]; exact Nat.ne_of_lt (Nat.lt_succ_of_lt lb)
          exact mv.heap b o (by simp only [List.mem_cons, List.not_mem_nil, or_false, not_or]; exact ⟨b1, b2⟩) (Heap.get?_push_of_some _ (Heap.get?_push_of_some _ e))
      · cases r2 with
        | error e => exact hr2
        | ok fl2 =>
          cases fl2 with
          | ret r =>
            obtain ⟨rfl, hp', tk, rfl, so', kp⟩ := hr2
            repeat (any_goals (first | assumption | wp_step))
            exact fin _ _ so' kp
          | _ => exact hr2.elim
    | _ => exact hr.elim
end
end DL
namespace DL
open PySem L2 PyProof.Rows
variable {κ : Kx} {X : Cx} {e : Expr} {pos : Pos}
def setLen (ys : List Str) : Nat := (metT (fun i => ys.getD i Str.empty) ys.length).length
def eLenSet (m : E) : E := fun env => (m env).bind fun a => match a.1 with
  | .list ds => (strsD ds).bind fun ys => if ys.length + 1 < 4096 then some (.int (setLen ys : Nat), a.2) else none
  | _ => none
theorem ed_lenSet {m : E} {p p2 q : Pos} (hc : X.calm = true) (hg : Gl X "len") (hm : X.mg "len" = none) (hg2 : Gl X "set") (hm2 : X.mg "set" = none) (he : PE X e (tE κ m))
    (na : starEach [e] X.env = (false, eval e X.env) :: starEach [] X.env := by rfl) : PE X (.Call (.Name "len" p) [.Call (.Name "set" p2) [e] [] q] [] pos) (tE κ (eLenSet m)) := by
  refine ⟨fun pins s σ H Q I0 h => ?_⟩
  obtain ⟨env, F, ad, d, env', I, hmm, kk⟩ := h
  refine Call_ (ld_blt I0 hg hm boot_len ?_)
  refine PyProof.Rows.callWith_builtin1 (PyProof.Rows.args_cons ?_ rfl) rfl rfl
  refine Call_ (ld_blt I0 hg2 hm2 boot_set ?_)
  unfold eLenSet at hmm
  cases e1 : m env with
  | none => rw [e1] at hmm; cases hmm
  | some a =>
  obtain ⟨da, env1⟩ := a
  rw [e1, Option.bind_some] at hmm
  refine PyProof.Rows.callWith_type1 (PyProof.Rows.args_cons (thn (he.run pins s σ H (fun v H' => ∃ (l : Addr) (xs : List Str), v = .ref l ∧ SqL X.K H' l (xs.map V.str) ∧ xs.length + 1 < 4096 ∧ Q (.int (setLen xs : Nat)) H') I0 ⟨env, F, ad, da, env1, I, e1, fun v H1 F1 ad1 I1 g1 r1 => ?_⟩) fun v s1 ⟨x, H1, I1, r1, q1⟩ => PyProof.Rows.args_nil ?_) na) na rfl
  · cases da with
    | list ds =>
      cases e2 : strsD ds with
      | none => simp [e2] at hmm
      | some ys =>
        simp only [e2, Option.bind_some] at hmm
        split at hmm
        · rename_i hz
          cases hmm
          obtain ⟨p, vs, rfl, h1, r⟩ := r1.isLst
          obtain rfl := strsD_reps e2 r
          exact ⟨p, ys, rfl, .inl (I1.sub.rd h1), hz, kk _ H1 F1 ad1 I1 g1 (.int _)⟩
        · cases hmm
    | _ => cases hmm
  · obtain ⟨l, xs, rfl, hq, hz, q1⟩ := q1
    cases r1
    obtain ⟨its, r, pl, _⟩ := I1.list hq
    have hl : its.toArray.size = xs.length := by rw [List.size_toArray, ← r.length, List.length_map]
    refine call_setT (I1.ok.hd hc) pl.isList (by simpa using strsAre_of r) (by rw [hl]; exact hz) fun h' tk hS hk => ?_
    refine PyProof.Rows.args_nil ?_
    rw [hl] at hS
    obtain ⟨o, es, ep, t, ho, hex, hd, _, _, _, hf, hn⟩ := hS
    have I2 : Inv X pins σ H1 { s1 with heap := h', toks := tk } := I1.kept fun b o e => hk b o (Heap.lt_size e) e
    have hle := metT_le (fun i => xs.getD i Str.empty) xs.length
    have hn' : es.size = setLen xs := hn
    exact call_len_set ho hex hd hf (by rw [hn]; omega) ⟨.int (setLen xs : Nat), H1, I2.tok _, ⟨_, by rw [hn']⟩, q1⟩
end DL
/-! The data layer, 20: not x, by truth. -/
namespace DL
open PySem L2 PyProof.Rows
variable {κ : Kx} {X : Cx} {a : Expr} {pos : Pos} {o : Opd}
def eNotT (o : Opd) : E := fun env => (runOpd o env).bind fun a => (a.1.get a.2).bind fun d => (truD d).map fun b => (.bool (!b), a.2)
theorem ed_notT (hκ : κ.K = X.K) (ha : PE X a (tOpd κ o)) : PE X (.UnaryOp .Not a pos) (tE κ (eNotT o)) :=
  pe_of (pe_notT ha) fun σ H Q q => by
    obtain ⟨env, F, ad, d, env', I, hm, k⟩ := q
    unfold eNotT at hm
    cases e1 : runOpd o env with
    | none => rw [e1] at hm; cases hm
    | some t =>
      rw [e1, Option.bind_some] at hm
      cases e2 : t.1.get t.2 with
      | none => rw [e2] at hm; cases hm
      | some d' =>
        rw [e2, Option.bind_some] at hm
        cases e3 : truD d' with
        | none => rw [e3] at hm; cases hm
        | some b' =>
          rw [e3] at hm
          cases hm
          exact ⟨env, F, ad, t.1, t.2, I, e1, fun v H' F' ad' I' g r => ⟨b', tru_top hκ (r.top I' e2) e3, k _ H' F' ad' I' g (.bl _)⟩⟩
theorem td_din {a b : Expr} {o1 o2 : Opd} (hu : X.A.units + 1 < cLine) (ha : PE X a (tOpd κ o1)) (hb : PE X b (tOpd κ o2)) (hm : behindInMarks .In b = false := by rfl) : PT X (.Compare a [.In] [b] pos) (tT κ (tB (eOp2 (aDIn id) o1 o2))) :=
  pt_of (pt_cmp (pc_din hu ha hb) hm) fun _ _ _ q => op2_args (d_din (f := id)) (tT_tB q)
theorem td_dnotin {a b : Expr} {o1 o2 : Opd} (hu : X.A.units + 1 < cLine) (ha : PE X a (tOpd κ o1)) (hb : PE X b (tOpd κ o2)) (hm : behindInMarks .NotIn b = false := by rfl) : PT X (.Compare a [.NotIn] [b] pos) (tT κ (tB (eOp2 (aDIn not) o1 o2))) :=
  pt_of (pt_cmp (pc_dnotin hu ha hb) hm) fun _ _ _ q => op2_args (d_din (f := not)) (tT_tB q)
end DL
/-! The data layer, 21: a list of one's own, only read while something is reckoned. -/
namespace DL
open PySem L2 PyProof.Rows
variable {κ : Kx} {X : Cx} {e : Expr} {pos : Pos}
/-- the list of a slot that is only read, walked -/
def iPk (i : Nat) : I := fun env => match env[i]? with
  | some (some (.l .ro xs)) => some (xs, env)
  | _ => none
theorem ro_keep {env env2 : Env} {H1 F1 H F : Hp} {ad1 ad2 : Nat → Addr} {σ : L2.St} {i : Nat} {xs : List D} {o : HO} (I : Sim κ env σ H1 F1 ad1) (h : env[i]? = some (some (.l .ro xs))) (g : Go env H1 F1 ad1 env2 H F ad2) (e : H1 (ad1 i) = some o) : H (ad1 i) = some o := by
  have no : ∀ k, k ≠ .ro → ¬ At k env ad1 (ad1 i) := fun k hk ⟨j, s, q1, q2, q3⟩ => by
    have : j = i := I.inj j i s _ q1 h (by cases s <;> first | rfl | exact q2.elim) rfl q3
    subst this
    rw [h] at q1
    cases q1
    exact hk q2.symm
  exact g.keep _ _ e (no .rw (by decide)) (no .own (by decide))
theorem ro_ok {env : Env} {H1 F1 : Hp} {ad1 : Nat → Addr} {σ : L2.St} {i : Nat} {xs : List D} {vs : List V} (I : Sim κ env σ H1 F1 ad1) (h : env[i]? = some (some (.l .ro xs))) (hv : Rd H1 (ad1 i) (.lst vs)) (r : Reps κ F1 vs xs) : ItOk κ (Itl κ.K (ad1 i)) xs (Later env H1 F1 ad1) := by
  have st : ∀ {H F}, Later env H1 F1 ad1 H F → SqL κ.K H (ad1 i) vs ∧ Sub F1 F := fun {H F} l => by
    obtain ⟨s, env2, ad2, g⟩ := l
    refine ⟨.inl ?_, g.sub⟩
    rcases hv with hv | ⟨o, hv⟩
    · exact .inl (ro_keep I h g hv)
    · exact .inr ⟨o, ro_keep I h g hv⟩
  refine ⟨fun H F l => ⟨vs, (st l).1, by rw [r.length]; exact Nat.le_refl _⟩, fun j H F hi l => ?_, fun j H F x H' hi l y => ?_⟩
  · have hv : j < vs.length := by rw [r.length]; exact hi
    exact ⟨vs, vs[j], (st l).1, by simp [hv]⟩
  · obtain ⟨rfl, y⟩ := y
    have e := y vs (st l).1
    obtain ⟨d, hd, rd⟩ := r.getV e
    exact ⟨F, d, hd, Ext.later l, rd.mono (st l).2⟩
theorem it_pk {tg : Expr} {i : Nat} (hκ : κ.K = X.K) (h : PE X e (tVar i)) : PI X tg e (tI κ (iPk i)) :=
  pi_of (pi_list (od_p (κ := κ) h)) fun σ H R q => by
    obtain ⟨env, F, ad, rs, env', I, hm, k⟩ := q
    unfold iPk at hm
    split at hm
    · rename_i xs ek
      cases hm
      refine ⟨env, F, ad, .i i, env, I, ?_, fun v H1 F1 ad1 I1 g1 r1 => ?_⟩
      · have : peek env i = some (.list rs) := by unfold peek; rw [ek]; rfl
        simp [runOpd, this]
      · obtain ⟨hσ, hf, vs, hv, r⟩ := I1.slot i _ ek
        have r1 : σ[i]? = some (some v) := r1
        rw [hσ] at r1
        cases r1
        exact ⟨_, rfl, ⟨vs, .inl hv⟩, hκ ▸ k _ H1 F1 ad1 I1 g1 (ro_ok I1 ek hv r)⟩
    · cases hm
def eRo (i : Nat) (m : E) : E := fun env => match env[i]? with
  | some (some (.l .own xs)) => (m (env.set i (some (.l .ro xs)))).bind fun r => match r.2[i]? with
    | some (some (.l .ro ys)) => some (r.1, r.2.set i (some (.l .own ys)))
    | _ => none
  | some (some (.l .rw xs)) => (m (env.set i (some (.l .ro xs)))).bind fun r => match r.2[i]? with
    | some (some (.l .ro ys)) => some (r.1, r.2.set i (some (.l .rw ys)))
    | _ => none
  | _ => none
theorem eRo_some {i : Nat} {m : E} {env env' : Env} {d : D} (h : eRo i m env = some (d, env')) : ∃ k xs ys env1, (k = .rw ∨ k = .own) ∧ env[i]? = some (some (.l k xs)) ∧ m (env.set i (some (.l .ro xs))) = some (d, env1) ∧ env1[i]? = some (some (.l .ro ys)) ∧ env' = env1.set i (some (.l k ys)) := by
  unfold eRo at h
  split at h
  · rename_i xs ek
    cases e1 : m (env.set i (some (.l .ro xs))) with
    | none => rw [e1] at h; cases h
    | some r =>
      rw [e1, Option.bind_some] at h
      split at h
      · rename_i ys c
        cases h
        exact ⟨.own, xs, ys, r.2, .inr rfl, ek, e1, c, rfl⟩
      · cases h
  · rename_i xs ek
    cases e1 : m (env.set i (some (.l .ro xs))) with
    | none => rw [e1] at h; cases h
    | some r =>
      rw [e1, Option.bind_some] at h
      split at h
      · rename_i ys c
        cases h
        exact ⟨.rw, xs, ys, r.2, .inl rfl, ek, e1, c, rfl⟩
      · cases h
  · cases h
theorem set_at {env : Env} {i j : Nat} {s s0 t : S} (h0 : env[i]? = some (some s0)) (h : (env.set i (some s))[j]? = some (some t)) : (j = i ∧ t = s) ∨ (j ≠ i ∧ env[j]? = some (some t)) := by
  have hi := (List.getElem?_eq_some_iff.mp h0).1
  rw [getElem?_set'] at h
  by_cases q : i = j
  · rw [if_pos q, if_pos hi] at h
    cases h
    exact .inl ⟨q.symm, rfl⟩
  · rw [if_neg q] at h
    exact .inr ⟨fun z => q z.symm, h⟩
theorem Sim.ro {env : Env} {σ : L2.St} {H F : Hp} {ad : Nat → Addr} {i : Nat} {k : Kd} {xs : List D} (I : Sim κ env σ H F ad) (h : env[i]? = some (some (.l k xs))) : Sim κ (env.set i (some (.l .ro xs))) σ H F ad := by
  refine ⟨by rw [List.length_set]; exact I.len, I.sub, fun j s e => ?_, fun a b s t e1 e2 o1 o2 ea => ?_⟩
  · rcases set_at h e with ⟨rfl, rfl⟩ | ⟨_, e⟩
    · obtain ⟨q1, q2, vs, q3, q4⟩ := I.slot j _ h
      exact ⟨q1, q2, vs, q3.rd, q4⟩
    · exact I.slot j s e
  · have f : ∀ (c : Nat) (u : S), (env.set i (some (.l .ro xs)))[c]? = some (some u) → u.obj = true → ∃ u' : S, env[c]? = some (some u') ∧ u'.obj = true := fun c u ec oc => by
      rcases set_at h ec with ⟨rfl, rfl⟩ | ⟨_, ec⟩
      · exact ⟨_, h, rfl⟩
      · exact ⟨u, ec, oc⟩
    obtain ⟨s', q1, q2⟩ := f a s e1 o1
    obtain ⟨t', q3, q4⟩ := f b t e2 o2
    exact I.inj a b s' t' q1 q3 q2 q4 ea
theorem ro_same {env env1 : Env} {H F H' F' : Hp} {ad ad' : Nat → Addr} {i : Nat} {k : Kd} {xs ys : List D} (h : env[i]? = some (some (.l k xs))) (h1 : env1[i]? = some (some (.l .ro ys))) (g : Go (env.set i (some (.l .ro xs))) H F ad env1 H' F' ad') : xs = ys := by
  have hi := (List.getElem?_eq_some_iff.mp h).1
  obtain ⟨s0, b1, b2, b3, b4⟩ := g.brw i _ h1 (.inr rfl)
  rw [getElem?_set', if_pos rfl, if_pos hi] at b1
  have b1 := Option.some.inj (Option.some.inj b1)
  have := b1.trans (b4 rfl)
  cases this
  rfl
theorem ro_back {env env1 : Env} {σ : L2.St} {H F H' F' : Hp} {ad ad' : Nat → Addr} {i : Nat} {k : Kd} {xs : List D} (I : Sim κ env σ H F ad) (hk : k = .rw ∨ k = .own) (h : env[i]? = some (some (.l k xs))) (h1 : env1[i]? = some (some (.l .ro xs)))
    (I1 : Sim κ env1 σ H' F' ad') (g : Go (env.set i (some (.l .ro xs))) H F ad env1 H' F' ad') : Sim κ (env1.set i (some (.l k xs))) σ H' F' ad' ∧ Go env H F ad (env1.set i (some (.l k xs))) H' F' ad' := by
  have hi := (List.getElem?_eq_some_iff.mp h).1
  have hro : (env.set i (some (S.l .ro xs)))[i]? = some (some (.l .ro xs)) := by rw [getElem?_set', if_pos rfl, if_pos hi]
  have Ir := I.ro h
  obtain ⟨s0, b1, b2, b3, b4⟩ := g.brw i _ h1 (.inr rfl)
  obtain ⟨q1, q2, vs, q3, q4⟩ := I.slot i _ h
  have q3' : H (ad i) = some (.lst vs) := by rcases hk with rfl | rfl <;> exact q3
  have q5 : H' (ad i) = some (.lst vs) := ro_keep Ir hro g q3'
  obtain ⟨p1, p2, _, _, _⟩ := I1.slot i _ h1
  have back : ∀ kd a, kd ≠ .ro → At kd (env.set i (some (S.l .ro xs))) ad a → At kd env ad a := fun kd a hkd ⟨j, s, e, hs, ea⟩ => by
    rcases set_at h e with ⟨rfl, rfl⟩ | ⟨_, e⟩
    · exact absurd hs.symm hkd
    · exact ⟨j, s, e, hs, ea⟩
  refine ⟨⟨by rw [List.length_set]; exact I1.len, I1.sub, fun j s e => ?_, fun a b s t e1 e2 o1 o2 ea => ?_⟩, ⟨fun a o e n1 n2 => g.keep a o e (fun z => n1 (back _ _ (by decide) z)) fun z => n2 (back _ _ (by decide) z), g.pres, g.mono, fun a e => ?_, g.tupb, fun a e => ?_, fun j s e hs => ?_⟩⟩
  · rcases set_at h1 e with ⟨rfl, rfl⟩ | ⟨_, e⟩
    · refine ⟨p1, p2, vs, ?_, q4.mono g.sub⟩
      rw [b3]
      rcases hk with rfl | rfl <;> exact q5
    · exact I1.slot j s e
  · have f : ∀ (c : Nat) (u : S), (env1.set i (some (.l k xs)))[c]? = some (some u) → u.obj = true → ∃ u' : S, env1[c]? = some (some u') ∧ u'.obj = true := fun c u ec oc => by
      rcases set_at h1 ec with ⟨rfl, rfl⟩ | ⟨_, ec⟩
      · exact ⟨_, h1, rfl⟩
      · exact ⟨u, ec, oc⟩
    obtain ⟨s', r1, r2⟩ := f a s e1 o1
    obtain ⟨t', r3, r4⟩ := f b t e2 o2
    exact I1.inj a b s' t' r1 r3 r2 r4 ea
  · rcases g.new a e with z | z | z | z
    · exact .inl z
    · exact .inr (.inl z)
    · exact .inr (.inr (.inl (back _ _ (by decide) z)))
    · exact .inr (.inr (.inr z))
  · obtain ⟨j, s, e, hs, ea⟩ := e
    rcases set_at h1 e with ⟨rfl, rfl⟩ | ⟨_, e⟩
    · exact .inl ⟨j, _, h, hs, by rw [← b3]; exact ea⟩
    · rcases g.own a ⟨j, s, e, hs, ea⟩ with z | z
      · exact .inl (back _ _ (by decide) z)
      · exact .inr z
  · rcases set_at h1 e with ⟨rfl, rfl⟩ | ⟨hj, e⟩
    · refine ⟨_, h, rfl, b3, fun z => ?_⟩
      rcases hk with rfl | rfl <;> cases z
    · obtain ⟨s0, c1, c2, c3, c4⟩ := g.brw j s e hs
      rcases set_at h c1 with ⟨rfl, rfl⟩ | ⟨_, c1⟩
      · exact absurd rfl hj
      · exact ⟨s0, c1, c2, c3, c4⟩
theorem ed_ro {i : Nat} {m : E} (he : PE X e (tE κ m)) : PE X e (tE κ (eRo i m)) := pe_of he fun σ H Q q => by
  obtain ⟨env, F, ad, d, env', I, hm, kk⟩ := q
  obtain ⟨k, xs, ys, env1, hk, h, h1, h2, rfl⟩ := eRo_some hm
  refine ⟨_, F, ad, d, env1, I.ro h, h1, fun v H' F' ad' I1 g1 r => ?_⟩
  obtain rfl := ro_same h h2 g1
  obtain ⟨I2, g2⟩ := ro_back I hk h h2 I1 g1
  exact kk v H' F' ad' I2 g2 r
theorem eo_ro {i : Nat} {m : E} (he : PE X e (tO κ m)) : PE X e (tO κ (eRo i m)) := pe_of he fun σ H Q q => by
  obtain ⟨env, F, ad, d, env', I, hm, kk⟩ := q
  obtain ⟨k, xs, ys, env1, hk, h, h1, h2, rfl⟩ := eRo_some hm
  refine ⟨_, F, ad, d, env1, I.ro h, h1, fun a H' F' ad' I1 g1 p1 p2 p3 p4 => ?_⟩
  obtain rfl := ro_same h h2 g1
  obtain ⟨I2, g2⟩ := ro_back I hk h h2 I1 g1
  refine kk a H' F' ad' I2 g2 p1 p2 (fun kd z => ?_) p4
  obtain ⟨j, s, e, hs, ea⟩ := z
  rcases set_at h2 e with ⟨rfl, rfl⟩ | ⟨_, e⟩
  · exact p3 .ro ⟨j, _, h2, rfl, ea⟩
  · exact p3 kd ⟨j, s, e, hs, ea⟩
end DL
/-! The data layer read off: plain evaluation of the combinators. -/
namespace DL
open PySem L2 PyProof.Rows
/-- a number of at most n bits -/
class Sm (x : Int) (n : outParam Nat) : Prop where
  h : x.natAbs < 2 ^ n
theorem Sm.le {x : Int} {n m : Nat} (h : Sm x n) (l : n ≤ m) : Sm x m := ⟨Nat.lt_of_lt_of_le h.h (Nat.pow_le_pow_right (by decide) l)⟩
instance Sm.lit (k : Nat) : Sm (no_index (@OfNat.ofNat Int k _)) (@OfNat.ofNat Nat k (instOfNatNat k)) := ⟨by
  show (Int.ofNat k).natAbs < 2 ^ k
  exact Nat.lt_two_pow_self⟩
instance (priority := high) Sm.p1 : Sm (618970019642690137449562111 : Int) 90 := ⟨by decide +kernel⟩
instance (priority := high) Sm.p2 : Sm (162259276829213363391578010288127 : Int) 108 := ⟨by decide +kernel⟩
instance (priority := high) Sm.p3 : Sm (1000000000000000000 : Int) 60 := ⟨by decide +kernel⟩
instance Sm.neg {x : Int} {n : Nat} [h : Sm x n] : Sm (-x) n := ⟨by rw [Int.natAbs_neg]; exact h.h⟩
theorem two_pow_add {n m a b : Nat} (h1 : a < 2 ^ n) (h2 : b < 2 ^ m) : a + b < 2 ^ (n + m + 1) := by
  have q1 : 2 ^ n ≤ 2 ^ (n + m) := Nat.pow_le_pow_right (by decide) (by omega)
  have q2 : 2 ^ m ≤ 2 ^ (n + m) := Nat.pow_le_pow_right (by decide) (by omega)
  rw [Nat.pow_succ]
  omega
instance Sm.add {x y : Int} {n m : Nat} [h1 : Sm x n] [h2 : Sm y m] : Sm (x + y) (n + m + 1) := ⟨Nat.lt_of_le_of_lt (Int.natAbs_add_le x y) (two_pow_add h1.h h2.h)⟩
instance Sm.sub {x y : Int} {n m : Nat} [h1 : Sm x n] [h2 : Sm y m] : Sm (x - y) (n + m + 1) := ⟨Nat.lt_of_le_of_lt (by omega) (two_pow_add h1.h h2.h)⟩
instance Sm.mul {x y : Int} {n m : Nat} [h1 : Sm x n] [h2 : Sm y m] : Sm (x * y) (n + m) := ⟨by
  rw [Int.natAbs_mul, Nat.pow_add]
  exact Nat.mul_lt_mul'' h1.h h2.h⟩
instance Sm.abs {x : Int} {n : Nat} [h : Sm x n] : Sm (x.natAbs : Int) n := ⟨by rw [Int.natAbs_natCast]; exact h.h⟩
theorem abs_fdiv_le (x y : Int) : (x.fdiv y).natAbs ≤ x.natAbs := by
  rcases Int.lt_trichotomy y 0 with h | h | h
  · have e := Int.fdiv_eq_ediv (a := x) (b := y)
    have e2 : x.fdiv y = (-x).fdiv (-y) := by rw [Int.neg_fdiv_neg]
    rw [e2, Int.fdiv_eq_ediv_of_nonneg _ (by omega)]
    have : (-x / -y).natAbs ≤ (-x).natAbs := Int.natAbs_ediv_le_natAbs _ _
    omega
  · subst h; simp
  · rw [Int.fdiv_eq_ediv_of_nonneg _ (by omega)]
    exact Int.natAbs_ediv_le_natAbs _ _
instance Sm.fdiv {x y : Int} {n : Nat} [h : Sm x n] : Sm (x.fdiv y) n := ⟨Nat.lt_of_le_of_lt (abs_fdiv_le x y) h.h⟩
instance Sm.ediv {x y : Int} {n : Nat} [h : Sm x n] : Sm (x / y) n := ⟨Nat.lt_of_le_of_lt (Int.natAbs_ediv_le_natAbs x y) h.h⟩
theorem abs_fmod_lt (x y : Int) (h : y ≠ 0) : (x.fmod y).natAbs < y.natAbs := by
  rcases Int.lt_or_gt_of_ne h with h | h
  · have e2 : x.fmod y = -((-x).fmod (-y)) := by rw [Int.neg_fmod_neg]; omega
    rw [e2, Int.fmod_eq_emod_of_nonneg _ (by omega)]
    have h1 := Int.emod_lt_of_pos (-x) (show 0 < -y by omega)
    have h2 := Int.emod_nonneg (-x) (show -y ≠ 0 by omega)
    omega
  · rw [Int.fmod_eq_emod_of_nonneg _ (by omega)]
    have h1 := Int.emod_lt_of_pos x (show 0 < y by omega)
    have h2 := Int.emod_nonneg x (show y ≠ 0 by omega)
    omega
theorem Sm.max' {a n m : Nat} (h : a < 2 ^ n) : a < 2 ^ (n + m) := Nat.lt_of_lt_of_le h (Nat.pow_le_pow_right (by decide) (by omega))
instance Sm.fmod {x y : Int} {n m : Nat} [h1 : Sm x n] [h2 : Sm y m] : Sm (x.fmod y) (n + m) := ⟨by
  by_cases z : y = 0
  · subst z; simp; exact Sm.max' h1.h
  · rw [Nat.add_comm]; exact Sm.max' (Nat.lt_trans (abs_fmod_lt x y z) h2.h)⟩
instance Sm.emod {x y : Int} {n m : Nat} [h1 : Sm x n] [h2 : Sm y m] : Sm (x % y) (n + m) := ⟨by
  by_cases z : y = 0
  · subst z; simp; exact Sm.max' h1.h
  · have h3 := Int.emod_nonneg x z
    have h4 := Int.emod_lt x z
    rw [Nat.add_comm]; exact Sm.max' (Nat.lt_trans (by omega) h2.h)⟩
instance Sm.gcd {x y : Int} {n m : Nat} [h1 : Sm x n] [h2 : Sm y m] : Sm ((Nat.gcd x.natAbs y.natAbs : Nat) : Int) (n + m) := ⟨by
  rw [Int.natAbs_natCast]
  by_cases z : x.natAbs = 0
  · rw [z, Nat.gcd_zero_left, Nat.add_comm]; exact Sm.max' h2.h
  · exact Nat.lt_of_le_of_lt (Nat.gcd_le_left _ (by omega)) (Sm.max' h1.h)⟩
theorem Sm.log {x : Int} {n : Nat} (h : Sm x n) : x.natAbs.log2 ≤ n := by
  by_cases z : x.natAbs = 0
  · rw [z]; simp
  · exact Nat.le_of_lt ((Nat.log2_lt z).mpr h.h)
/-! ### the operations -/
section
variable {i j : Int} {n m : Nat}
@[simp] theorem ev_add : aAdd (.int i) (.int j) = some (.int (i + j)) := rfl
@[simp] theorem ev_sub : aSub (.int i) (.int j) = some (.int (i - j)) := rfl
@[simp] theorem ev_neg : aNeg (.int i) = some (.int (-i)) := rfl
@[simp] theorem ev_mul [h1 : Sm i n] [h2 : Sm j m] (h : n + m < 100000000) : aMulI (.int i) (.int j) = some (.int (i * j)) := by
  exact if_pos (decide_eq_true (by have := h1.log; have := h2.log; omega))
theorem ev_div [h2 : Sm j m] (h0 : j ≠ 0) (h : m < 9000) : aDiv (.int i) (.int j) = some (.int (i.fdiv j)) := by
  exact if_pos (decide_eq_true ⟨h0, by have := h2.log; omega⟩)
@[simp] theorem ev_divP [h2 : Sm j m] (h0 : 0 < j) (h : m < 9000) : aDiv (.int i) (.int j) = some (.int (i / j)) := by
  rw [ev_div (by omega) h, Int.fdiv_eq_ediv_of_nonneg _ (by omega)]
theorem ev_mod (h0 : j ≠ 0) : aMod (.int i) (.int j) = some (.int (i.fmod j)) := by
  exact if_neg h0
@[simp] theorem ev_modP (h0 : 0 < j) : aMod (.int i) (.int j) = some (.int (i % j)) := by
  rw [ev_mod (by omega), Int.fmod_eq_emod_of_nonneg _ (by omega)]
@[simp] theorem ev_lt : aLtI (.int i) (.int j) = some (.bool (decide (i < j))) := rfl
@[simp] theorem ev_le : aLeI (.int i) (.int j) = some (.bool (decide (i ≤ j))) := rfl
@[simp] theorem ev_gt : aGtI (.int i) (.int j) = some (.bool (decide (j < i))) := rfl
@[simp] theorem ev_ge : aGeI (.int i) (.int j) = some (.bool (decide (j ≤ i))) := rfl
@[simp] theorem ev_eq : aEq (.int i) (.int j) = some (.bool (decide (i = j))) := by
  unfold aEq
  rw [if_pos ⟨rfl, rfl⟩]
  show some (PyData.bool _) = _
  congr 1
@[simp] theorem ev_ne : aNe (.int i) (.int j) = some (.bool (!decide (i = j))) := by
  unfold aNe
  rw [if_pos ⟨rfl, rfl⟩]
  show some (PyData.bool _) = _
  exact congrArg (fun b => some (PyData.bool (!b))) (by unfold PyData.eqv; first | rfl | exact (by cases h : decide (i = j) <;> simp_all))
@[simp] theorem ev_eqB {p q : Bool} : aEq (.bool p) (.bool q) = some (.bool (p == q)) := by
  unfold aEq
  rw [if_pos ⟨rfl, rfl⟩]
  cases p <;> cases q <;> rfl
@[simp] theorem ev_neB {p q : Bool} : aNe (.bool p) (.bool q) = some (.bool (!(p == q))) := by
  unfold aNe
  rw [if_pos ⟨rfl, rfl⟩]
  cases p <;> cases q <;> rfl
@[simp] theorem ev_pow (h : 0 ≤ j ∧ j ≤ 1000000 ∧ i.natAbs < 2 ^ 64) : aPow (.int i) (.int j) = some (.int (i ^ j.toNat)) := if_pos h
@[simp] theorem ev_isNone {x : D} : aIs x .none = some (.bool (isNoneD x)) := rfl
@[simp] theorem ev_isB {x : D} {b : Bool} : aIs x (.bool b) = some (.bool (isFlagD b x)) := rfl
@[simp] theorem ev_isNotNone {x : D} : aIsNot x .none = some (.bool (!isNoneD x)) := rfl
@[simp] theorem ev_isNotB {x : D} {b : Bool} : aIsNot x (.bool b) = some (.bool (!isFlagD b x)) := rfl
@[simp] theorem ev_flag {b c : Bool} : isFlagD b (.bool c) = (c == b) := rfl
@[simp] theorem ev_int : aInt [.int i] = some (.int i) := rfl
@[simp] theorem ev_intB {b : Bool} : aInt [.bool b] = some (.int (if b then 1 else 0)) := rfl
@[simp] theorem ev_abs : aAbs [.int i] = some (.int (i.natAbs : Int)) := by
  show some (PyData.int (if i < 0 then -i else i)) = _
  congr 2
  split <;> omega
@[simp] theorem ev_gcd : aGcd [.int i, .int j] = some (.int ((Nat.gcd i.natAbs j.natAbs : Nat) : Int)) := rfl
@[simp] theorem ev_tupleL {xs : List D} : aTuple [.list xs] = some (.tuple xs) := rfl
@[simp] theorem ev_tupleT {xs : List D} : aTuple [.tuple xs] = some (.tuple xs) := rfl
@[simp] theorem ev_listL {xs : List D} : aList [.list xs] = some (.list xs) := rfl
@[simp] theorem ev_listT {xs : List D} : aList [.tuple xs] = some (.list xs) := rfl
@[simp] theorem ev_ixL {xs : List D} : aIx (.list xs) (.int i) = atI xs i := rfl
@[simp] theorem ev_ixT {xs : List D} : aIx (.tuple xs) (.int i) = atI xs i := rfl
@[simp] theorem ev_ixS {xs : List D} : aIx (.dict [(.none, .list xs)]) (.int i) = atI xs i := rfl
@[simp] theorem ev_lenL {xs : List D} : aLen [.list xs] = some (.int (xs.length : Int)) := rfl
@[simp] theorem ev_lenT {xs : List D} : aLen [.tuple xs] = some (.int (xs.length : Int)) := rfl
@[simp] theorem ev_lenS {xs : List D} : aLen [.dict [(.none, .list xs)]] = some (.int (xs.length : Int)) := rfl
theorem sizeLine_big : 1000000 ≤ sizeLine := by decide
theorem ev_tup {ds : List D} (h : ds.length ≤ 1000000) : aTup ds = some (.tuple ds) := if_pos (Nat.le_trans h sizeLine_big)
theorem ev_lst {ds : List D} (h : ds.length ≤ 1000000) : aLst ds = some (.list ds) := if_pos (Nat.le_trans h sizeLine_big)
@[simp] theorem ev_tup0 : aTup [] = some (.tuple []) := if_pos (by simp only [List.length]; exact Nat.le_trans (by decide) sizeLine_big)
@[simp] theorem ev_lst0 : aLst [] = some (.list []) := if_pos (by simp only [List.length]; exact Nat.le_trans (by decide) sizeLine_big)
@[simp] theorem ev_tup1 {x0 : D} : aTup [x0] = some (.tuple [x0]) := if_pos (by simp only [List.length]; exact Nat.le_trans (by decide) sizeLine_big)
@[simp] theorem ev_lst1 {x0 : D} : aLst [x0] = some (.list [x0]) := if_pos (by simp only [List.length]; exact Nat.le_trans (by decide) sizeLine_big)
@[simp] theorem ev_tup2 {x0 x1 : D} : aTup [x0, x1] = some (.tuple [x0, x1]) := if_pos (by simp only [List.length]; exact Nat.le_trans (by decide) sizeLine_big)
@[simp] theorem ev_lst2 {x0 x1 : D} : aLst [x0, x1] = some (.list [x0, x1]) := if_pos (by simp only [List.length]; exact Nat.le_trans (by decide) sizeLine_big)
@[simp] theorem ev_tup3 {x0 x1 x2 : D} : aTup [x0, x1, x2] = some (.tuple [x0, x1, x2]) := if_pos (by simp only [List.length]; exact Nat.le_trans (by decide) sizeLine_big)
@[simp] theorem ev_lst3 {x0 x1 x2 : D} : aLst [x0, x1, x2] = some (.list [x0, x1, x2]) := if_pos (by simp only [List.length]; exact Nat.le_trans (by decide) sizeLine_big)
@[simp] theorem ev_tup4 {x0 x1 x2 x3 : D} : aTup [x0, x1, x2, x3] = some (.tuple [x0, x1, x2, x3]) := if_pos (by simp only [List.length]; exact Nat.le_trans (by decide) sizeLine_big)
@[simp] theorem ev_lst4 {x0 x1 x2 x3 : D} : aLst [x0, x1, x2, x3] = some (.list [x0, x1, x2, x3]) := if_pos (by simp only [List.length]; exact Nat.le_trans (by decide) sizeLine_big)
@[simp] theorem ev_tup5 {x0 x1 x2 x3 x4 : D} : aTup [x0, x1, x2, x3, x4] = some (.tuple [x0, x1, x2, x3, x4]) := if_pos (by simp only [List.length]; exact Nat.le_trans (by decide) sizeLine_big)
@[simp] theorem ev_lst5 {x0 x1 x2 x3 x4 : D} : aLst [x0, x1, x2, x3, x4] = some (.list [x0, x1, x2, x3, x4]) := if_pos (by simp only [List.length]; exact Nat.le_trans (by decide) sizeLine_big)
@[simp] theorem ev_tup6 {x0 x1 x2 x3 x4 x5 : D} : aTup [x0, x1, x2, x3, x4, x5] = some (.tuple [x0, x1, x2, x3, x4, x5]) := if_pos (by simp only [List.length]; exact Nat.le_trans (by decide) sizeLine_big)
@[simp] theorem ev_lst6 {x0 x1 x2 x3 x4 x5 : D} : aLst [x0, x1, x2, x3, x4, x5] = some (.list [x0, x1, x2, x3, x4, x5]) := if_pos (by simp only [List.length]; exact Nat.le_trans (by decide) sizeLine_big)
@[simp] theorem ev_tup7 {x0 x1 x2 x3 x4 x5 x6 : D} : aTup [x0, x1, x2, x3, x4, x5, x6] = some (.tuple [x0, x1, x2, x3, x4, x5, x6]) := if_pos (by simp only [List.length]; exact Nat.le_trans (by decide) sizeLine_big)
@[simp] theorem ev_lst7 {x0 x1 x2 x3 x4 x5 x6 : D} : aLst [x0, x1, x2, x3, x4, x5, x6] = some (.list [x0, x1, x2, x3, x4, x5, x6]) := if_pos (by simp only [List.length]; exact Nat.le_trans (by decide) sizeLine_big)
@[simp] theorem ev_tup8 {x0 x1 x2 x3 x4 x5 x6 x7 : D} : aTup [x0, x1, x2, x3, x4, x5, x6, x7] = some (.tuple [x0, x1, x2, x3, x4, x5, x6, x7]) := if_pos (by simp only [List.length]; exact Nat.le_trans (by decide) sizeLine_big)
@[simp] theorem ev_lst8 {x0 x1 x2 x3 x4 x5 x6 x7 : D} : aLst [x0, x1, x2, x3, x4, x5, x6, x7] = some (.list [x0, x1, x2, x3, x4, x5, x6, x7]) := if_pos (by simp only [List.length]; exact Nat.le_trans (by decide) sizeLine_big)
@[simp] theorem ev_tup9 {x0 x1 x2 x3 x4 x5 x6 x7 x8 : D} : aTup [x0, x1, x2, x3, x4, x5, x6, x7, x8] = some (.tuple [x0, x1, x2, x3, x4, x5, x6, x7, x8]) := if_pos (by simp only [List.length]; exact Nat.le_trans (by decide) sizeLine_big)
@[simp] theorem ev_lst9 {x0 x1 x2 x3 x4 x5 x6 x7 x8 : D} : aLst [x0, x1, x2, x3, x4, x5, x6, x7, x8] = some (.list [x0, x1, x2, x3, x4, x5, x6, x7, x8]) := if_pos (by simp only [List.length]; exact Nat.le_trans (by decide) sizeLine_big)
@[simp] theorem ev_tup10 {x0 x1 x2 x3 x4 x5 x6 x7 x8 x9 : D} : aTup [x0, x1, x2, x3, x4, x5, x6, x7, x8, x9] = some (.tuple [x0, x1, x2, x3, x4, x5, x6, x7, x8, x9]) := if_pos (by simp only [List.length]; exact Nat.le_trans (by decide) sizeLine_big)
@[simp] theorem ev_lst10 {x0 x1 x2 x3 x4 x5 x6 x7 x8 x9 : D} : aLst [x0, x1, x2, x3, x4, x5, x6, x7, x8, x9] = some (.list [x0, x1, x2, x3, x4, x5, x6, x7, x8, x9]) := if_pos (by simp only [List.length]; exact Nat.le_trans (by decide) sizeLine_big)
@[simp] theorem ev_tup11 {x0 x1 x2 x3 x4 x5 x6 x7 x8 x9 x10 : D} : aTup [x0, x1, x2, x3, x4, x5, x6, x7, x8, x9, x10] = some (.tuple [x0, x1, x2, x3, x4, x5, x6, x7, x8, x9, x10]) := if_pos (by simp only [List.length]; exact Nat.le_trans (by decide) sizeLine_big)
@[simp] theorem ev_lst11 {x0 x1 x2 x3 x4 x5 x6 x7 x8 x9 x10 : D} : aLst [x0, x1, x2, x3, x4, x5, x6, x7, x8, x9, x10] = some (.list [x0, x1, x2, x3, x4, x5, x6, x7, x8, x9, x10]) := if_pos (by simp only [List.length]; exact Nat.le_trans (by decide) sizeLine_big)
@[simp] theorem ev_tup12 {x0 x1 x2 x3 x4 x5 x6 x7 x8 x9 x10 x11 : D} : aTup [x0, x1, x2, x3, x4, x5, x6, x7, x8, x9, x10, x11] = some (.tuple [x0, x1, x2, x3, x4, x5, x6, x7, x8, x9, x10, x11]) := if_pos (by simp only [List.length]; exact Nat.le_trans (by decide) sizeLine_big)
@[simp] theorem ev_lst12 {x0 x1 x2 x3 x4 x5 x6 x7 x8 x9 x10 x11 : D} : aLst [x0, x1, x2, x3, x4, x5, x6, x7, x8, x9, x10, x11] = some (.list [x0, x1, x2, x3, x4, x5, x6, x7, x8, x9, x10, x11]) := if_pos (by simp only [List.length]; exact Nat.le_trans (by decide) sizeLine_big)
end
@[simp] theorem atI0 {x : D} {r : List D} : atI (x :: r) 0 = some x := atI_nat (j := 0) rfl
@[simp] theorem atI1 {x y : D} {r : List D} : atI (x :: y :: r) 1 = some y := atI_nat (j := 1) rfl
@[simp] theorem atI2 {x y z : D} {r : List D} : atI (x :: y :: z :: r) 2 = some z := atI_nat (j := 2) rfl
@[simp] theorem atI3 {x y z u : D} {r : List D} : atI (x :: y :: z :: u :: r) 3 = some u := atI_nat (j := 3) rfl
@[simp] theorem lget0 {α : Type} {x : α} {l : List α} : (x :: l)[0]? = some x := rfl
@[simp] theorem lgetS {α : Type} {x : α} {l : List α} {n : Nat} : (x :: l)[n + 1]? = l[n]? := rfl
/-! ### the frame -/
section
variable {env : Env} {i : Nat} {m n : E} {p q : P} {t u : T} {d : D}
@[simp] theorem ev_k : eK d env = some (d, env) := rfl
@[simp] theorem ev_v : eV i env = match env[i]? with
  | some (some (.d x)) => some (x, env)
  | some (some (.l .own xs)) => some (.list xs, env.set i (some (.d (.list xs))))
  | some (some (.m .own kvs)) => some (.dict kvs, env.set i (some (.d (.dict kvs))))
  | _ => none := rfl
@[simp] theorem ev_op {f : List D → Option D} {os : List Opd} : eOp f os env = (runOpds os env).bind fun a => (getAll a.2 a.1).bind fun ds => (f ds).map fun d => (d, a.2) := rfl
@[simp] theorem ev_op2 {f : D → D → Option D} {o1 o2 : Opd} : eOp2 f o1 o2 env = (runOpds [o1, o2] env).bind fun a => (getAll a.2 a.1).bind fun ds => (f2 f ds).map fun d => (d, a.2) := rfl
@[simp] theorem ev_op1 {f : D → Option D} {o1 : Opd} : eOp1 f o1 env = (runOpds [o1] env).bind fun a => (getAll a.2 a.1).bind fun ds => (f1 f ds).map fun d => (d, a.2) := rfl
@[simp] theorem ev_f2 {f : D → D → Option D} {x y : D} : f2 f [x, y] = f x y := rfl
@[simp] theorem ev_f1 {f : D → Option D} {x : D} : f1 f [x] = f x := rfl
@[simp] theorem ev_tB : tB m env = match m env with
  | some (.bool b, env') => some (b, env')
  | _ => none := rfl
@[simp] theorem ev_tTrue : tTrue env = some (true, env) := rfl
@[simp] theorem ev_and : tAndD t u env = (t env).bind fun a => if a.1 = true then u a.2 else some (false, a.2) := rfl
@[simp] theorem ev_or : tOrD t u env = (t env).bind fun a => if a.1 = true then some (true, a.2) else u a.2 := rfl
@[simp] theorem ev_not : tNotD t env = (t env).map fun a => (!a.1, a.2) := rfl
@[simp] theorem ev_tru {o : Opd} : tTru o env = (runOpd o env).bind fun a => (a.1.get a.2).bind fun d => (truD d).map fun b => (b, a.2) := rfl
@[simp] theorem ev_eand : eAnd m n env = match m env with
  | some (.bool true, env1) => n env1
  | some (.bool false, env1) => some (.bool false, env1)
  | _ => none := rfl
@[simp] theorem ev_eor : eOr m n env = match m env with
  | some (.bool true, env1) => some (.bool true, env1)
  | some (.bool false, env1) => n env1
  | _ => none := rfl
@[simp] theorem ev_enot : eNotV m env = match m env with
  | some (.bool b, env1) => some (.bool (!b), env1)
  | _ => none := rfl
@[simp] theorem ev_eif : eIf t m n env = (t env).bind fun a => if a.1 = true then m a.2 else n a.2 := rfl
@[simp] theorem ev_skip : pSkip env = some (.nx, env) := rfl
@[simp] theorem ev_seq : pSeq p q env = match p env with
  | some (.nx, env1) => q env1
  | r => r := rfl
@[simp] theorem ev_set {pt : Pat} : pSet pt m env = (m env).bind fun a => (bindPat pt a.1 a.2).map fun env' => (.nx, env') := rfl
@[simp] theorem ev_own : pOwn i m env = (m env).bind fun a => (own a.1).bind fun s => if i < a.2.length then some (.nx, a.2.set i (some s)) else none := rfl
@[simp] theorem ev_drop : pDrop m env = (m env).map fun a => (.nx, a.2) := rfl
@[simp] theorem ev_ret : pRet m env = (m env).map fun a => (.rt a.1, a.2) := rfl
@[simp] theorem ev_retN : pRetN env = some (.rt .none, env) := rfl
@[simp] theorem ev_brk : pBrk env = some (.bk, env) := rfl
@[simp] theorem ev_cnt : pCnt env = some (.ct, env) := rfl
@[simp] theorem ev_if : pIf t p q env = (t env).bind fun a => if a.1 = true then p a.2 else q a.2 := rfl
@[simp] theorem ev_for {it : I} {pt : Pat} : pFor it pt p env = (it env).bind fun a => forL pt p a.1 a.2 := rfl
@[simp] theorem ev_forL0 {pt : Pat} : forL pt p [] env = some (.nx, env) := rfl
theorem ev_forL {pt : Pat} {ds : List D} : forL pt p (d :: ds) env = (bindPat pt d env).bind fun env1 => match p env1 with
    | some (.nx, env2) => forL pt p ds env2
    | some (.ct, env2) => forL pt p ds env2
    | some (.bk, env2) => some (.nx, env2)
    | r => r := rfl
@[simp] theorem ev_iseq : iSeq m env = (m env).bind fun a => (seqD a.1).map fun ds => (ds, a.2) := rfl
@[simp] theorem ev_seqL {xs : List D} : seqD (.list xs) = some xs := rfl
@[simp] theorem ev_seqT {xs : List D} : seqD (.tuple xs) = some xs := rfl
@[simp] theorem ev_iop {g : List D → Option (List D)} {os : List Opd} : iOp g os env = (runOpds os env).bind fun a => (getAll a.2 a.1).bind fun ds => (g ds).map fun r => (r, a.2) := rfl
@[simp] theorem ev_ienm : iEnm m env = match m env with
  | some (.list xs, env') => some (enumD 0 xs, env')
  | _ => none := rfl
@[simp] theorem ev_rng1 {j : Int} (h : -(2 ^ 62) < j ∧ j < 2 ^ 62) : rng1 [.int j] = some (upTo 0 j.toNat) := by
  exact if_pos (small62_ok h)
@[simp] theorem ev_rng2 {i j : Int} (h : (-(2 ^ 62) < i ∧ i < 2 ^ 62) ∧ (-(2 ^ 62) < j ∧ j < 2 ^ 62)) : rng2 [.int i, .int j] = some (upTo i (j - i).toNat) := by
  exact if_pos ⟨small62_ok h.1, small62_ok h.2⟩
@[simp] theorem ev_fn {k : Nat} {args : List S} : fnD k p args = match p (args.map some ++ List.replicate (k - args.length) none) with
  | some (.rt d, env') => (backs env' 0 args).map fun r => (d, r)
  | some (.nx, env') => (backs env' 0 args).map fun r => (.none, r)
  | _ => none := rfl
@[simp] theorem ev_call {f : Fn} {os : List Opd} : eCall f os env = (runOpds os env).bind fun a => if apart a.2 a.1 = true then (argAll a.2 a.1).bind fun args => (f args).bind fun r => (giveBack a.1 r.2 a.2).map fun env' => (r.1, env') else none := rfl
@[simp] theorem ev_setL {ix val : E} : pSetL i ix val env = (val env).bind fun v => if (peek v.2 i).isSome = true then match ix v.2 with
  | some (.int j, env2) => (wList env2 i).bind fun w => (ixN w.2.length j).map fun p => (.nx, env2.set i (some (.l w.1 (w.2.set p v.1))))
  | _ => none else none := rfl
end
section
variable {env env' : Env} {i j : Nat} {m : E} {o : Opd} {os : List Opd} {d x : D} {t : Itm} {ts : List Itm} {s s' : S} {ss : List S} {xs ys : List D} {k k' : Kd} {kv kw : List (D × D)}
@[simp] theorem ev_runE : runOpd (.e m) env = (m env).map fun r => (.d r.1, r.2) := rfl
@[simp] theorem ev_runP : runOpd (.p i) env = (peek env i).map fun _ => (.i i, env) := rfl
@[simp] theorem ev_run0 : runOpds [] env = some ([], env) := rfl
@[simp] theorem ev_run1 : runOpds (o :: os) env = (runOpd o env).bind fun a => (runOpds os a.2).map fun b => (a.1 :: b.1, b.2) := rfl
@[simp] theorem ev_getD : Itm.get env (.d x) = some x := rfl
@[simp] theorem ev_getI : Itm.get env (.i j) = peek env j := rfl
@[simp] theorem ev_get0 : getAll env [] = some [] := rfl
@[simp] theorem ev_get1 : getAll env (t :: ts) = (t.get env).bind fun d => (getAll env ts).map fun ds => d :: ds := rfl
@[simp] theorem ev_dataD : (S.d x).data = x := rfl
@[simp] theorem ev_dataL : (S.l k xs).data = .list xs := rfl
@[simp] theorem ev_dataM : (S.m k kv).data = .dict kv := rfl
@[simp] theorem ev_all0 : runOpds (allE []) env = some ([], env) := rfl
@[simp] theorem ev_all1 {ms : List E} : runOpds (allE (m :: ms)) env = (runOpd (.e m) env).bind fun a => (runOpds (allE ms) a.2).map fun b => (a.1 :: b.1, b.2) := rfl
@[simp] theorem ev_bindV : bindPat (.v i) d env = if i < env.length then some (env.set i (some (.d d))) else none := by unfold bindPat; rfl
@[simp] theorem ev_bindT {ps : List Pat} : bindPat (.t ps) (.tuple xs) env = bindPats ps xs env := by rw [bindPat]
@[simp] theorem ev_binds0 : bindPats [] [] env = some env := by rw [bindPats]
@[simp] theorem ev_binds1 {p : Pat} {ps : List Pat} : bindPats (p :: ps) (d :: xs) env = (bindPat p d env).bind fun env1 => bindPats ps xs env1 := by rw [bindPats]
@[simp] theorem ev_argD : Itm.arg env (.d x) = some (.d x) := rfl
@[simp] theorem ev_argI : Itm.arg env (.i j) = (env[j]?.bind id).map S.lend := rfl
@[simp] theorem ev_args0 : argAll env [] = some [] := rfl
@[simp] theorem ev_args1 : argAll env (t :: ts) = (t.arg env).bind fun d => (argAll env ts).map fun ds => d :: ds := rfl
@[simp] theorem ev_lendD : (S.d x).lend = .d x := rfl
@[simp] theorem ev_lendO : (S.l .own xs).lend = .l .rw xs := rfl
@[simp] theorem ev_lendW : (S.l .rw xs).lend = .l .rw xs := rfl
@[simp] theorem ev_lendR : (S.l .ro xs).lend = .l .ro xs := rfl
@[simp] theorem ev_backD : (S.d x).back s = some (.d x) := by cases s <;> rfl
@[simp] theorem ev_backL : (S.l k xs).back (.l k' ys) = some (.l k ys) := rfl
@[simp] theorem ev_gb0 : giveBack [] [] env = some env := rfl
@[simp] theorem ev_gbD : giveBack (.d x :: ts) (s :: ss) env = giveBack ts ss env := rfl
@[simp] theorem ev_gbI : giveBack (.i j :: ts) (s :: ss) env = (env[j]?.bind id).bind fun s0 => (s0.back s).bind fun s1 => giveBack ts ss (env.set j (some s1)) := rfl
@[simp] theorem ev_ap0 : apart env [] = true := rfl
@[simp] theorem ev_apD : apart env (.d x :: ts) = apart env ts := rfl
@[simp] theorem ev_apI : apart env (.i j :: ts) = ((match env[j]? with
    | some (some (.d _)) => true
    | _ => ts.all fun t => match t with
      | .i j' => decide (j' ≠ j)
      | .d _ => true) && apart env ts) := rfl
@[simp] theorem ev_bk0 : backs env i [] = some [] := rfl
@[simp] theorem ev_bk1 : backs env i (s :: ss) = (backOne env i s).bind fun s' => (backs env (i + 1) ss).map fun r' => s' :: r' := rfl
@[simp] theorem ev_boD : backOne env i (.d x) = some (.d x) := rfl
@[simp] theorem ev_boL : backOne env i (.l k xs) = match env[i]? with
  | some (some (.l k' ys)) => if k' = k then some (.l k ys) else none
  | _ => none := rfl
@[simp] theorem ev_ownL : own (.list xs) = some (.l .own xs) := rfl
@[simp] theorem ev_nn0 : isNoneD .none = true := rfl
@[simp] theorem ev_nnB {b : Bool} : isNoneD (.bool b) = false := rfl
@[simp] theorem ev_nnI {i : Int} : isNoneD (.int i) = false := rfl
@[simp] theorem ev_nnT : isNoneD (.tuple xs) = false := rfl
@[simp] theorem ev_nnL : isNoneD (.list xs) = false := rfl
end
@[simp] theorem ev_peek {env : Env} {i : Nat} : peek env i = (env[i]?.bind id).map S.data := rfl
@[simp] theorem ev_w {env : Env} {i : Nat} : wList env i = match env[i]? with
  | some (some (.l .rw xs)) => some (.rw, xs)
  | some (some (.l .own xs)) => some (.own, xs)
  | _ => none := rfl
end DL
/-! Rules for the loops of the data layer. -/
namespace DL
open PySem L2
theorem seq_nx {p q : P} {env env1 : Env} (h : p env = some (.nx, env1)) : pSeq p q env = q env1 := by
  show (match p env with | some (.nx, env1) => q env1 | r => r) = _
  rw [h]
theorem while_rule {t : T} {m : P} (I : Env → Prop) (μ : Env → Nat) (Q : Out → Env → Prop)
    (step : ∀ env, I env → (∃ e1, t env = some (false, e1) ∧ Q .nx e1) ∨ ∃ e1, t env = some (true, e1) ∧
      ((∃ e2, m e1 = some (.nx, e2) ∧ I e2 ∧ μ e2 < μ env) ∨ (∃ e2, m e1 = some (.ct, e2) ∧ I e2 ∧ μ e2 < μ env) ∨ (∃ e2, m e1 = some (.bk, e2) ∧ Q .nx e2) ∨ ∃ d e2, m e1 = some (.rt d, e2) ∧ Q (.rt d) e2)) :
    ∀ (n : Nat) (env : Env), I env → μ env < n → ∃ o e', pWhile t m n env = some (o, e') ∧ Q o e'
  | 0, env, _, h => absurd h (Nat.not_lt_zero _)
  | n + 1, env, hi, h => by
    rcases step env hi with ⟨e1, h1, h2⟩ | ⟨e1, h1, ⟨e2, h2, h3, h4⟩ | ⟨e2, h2, h3, h4⟩ | ⟨e2, h2, h3⟩ | ⟨d, e2, h2, h3⟩⟩
    · exact ⟨.nx, e1, by simp only [pWhile, h1, Option.bind_some]; simp, h2⟩
    · obtain ⟨o, e', q1, q2⟩ := while_rule I μ Q step n e2 h3 (by omega)
      exact ⟨o, e', by simp only [pWhile, h1, Option.bind_some, if_true, h2]; exact q1, q2⟩
    · obtain ⟨o, e', q1, q2⟩ := while_rule I μ Q step n e2 h3 (by omega)
      exact ⟨o, e', by simp only [pWhile, h1, Option.bind_some, if_true, h2]; exact q1, q2⟩
    · exact ⟨.nx, e2, by simp only [pWhile, h1, Option.bind_some, if_true, h2], h3⟩
    · exact ⟨.rt d, e2, by simp only [pWhile, h1, Option.bind_some, if_true, h2], h3⟩
theorem for_rule {p : Pat} {body : P} (I : List D → Env → Prop) (Q : Out → Env → Prop) (nil : ∀ env, I [] env → Q .nx env)
    (cons : ∀ d ds env, I (d :: ds) env → ∃ e1, bindPat p d env = some e1 ∧
      ((∃ e2, body e1 = some (.nx, e2) ∧ I ds e2) ∨ (∃ e2, body e1 = some (.ct, e2) ∧ I ds e2) ∨ (∃ e2, body e1 = some (.bk, e2) ∧ Q .nx e2) ∨ ∃ r e2, body e1 = some (.rt r, e2) ∧ Q (.rt r) e2)) :
    ∀ (ds : List D) (env : Env), I ds env → ∃ o e', forL p body ds env = some (o, e') ∧ Q o e'
  | [], env, h => ⟨.nx, env, rfl, nil env h⟩
  | d :: ds, env, h => by
    obtain ⟨e1, h1, ⟨e2, h2, h3⟩ | ⟨e2, h2, h3⟩ | ⟨e2, h2, h3⟩ | ⟨r, e2, h2, h3⟩⟩ := cons d ds env h
    · obtain ⟨o, e', q1, q2⟩ := for_rule I Q nil cons ds e2 h3
      exact ⟨o, e', by rw [ev_forL, h1, Option.bind_some, h2]; exact q1, q2⟩
    · obtain ⟨o, e', q1, q2⟩ := for_rule I Q nil cons ds e2 h3
      exact ⟨o, e', by rw [ev_forL, h1, Option.bind_some, h2]; exact q1, q2⟩
    · exact ⟨.nx, e2, by rw [ev_forL, h1, Option.bind_some, h2], h3⟩
    · exact ⟨.rt r, e2, by rw [ev_forL, h1, Option.bind_some, h2], h3⟩
/-- a loop that no turn leaves -/
theorem for_all {p : Pat} {body : P} (I : List D → Env → Prop)
    (cons : ∀ d ds env, I (d :: ds) env → ∃ e1, bindPat p d env = some e1 ∧ ∃ e2, (body e1 = some (.nx, e2) ∨ body e1 = some (.ct, e2)) ∧ I ds e2)
    (ds : List D) (env : Env) (h : I ds env) : ∃ e', forL p body ds env = some (.nx, e') ∧ I [] e' := by
  obtain ⟨o, e', h1, h2, h3⟩ := for_rule (p := p) (body := body) I (fun o e => o = .nx ∧ I [] e) (fun env h => ⟨rfl, h⟩)
    (fun d ds env h => by
      obtain ⟨e1, h1, e2, h2, h3⟩ := cons d ds env h
      rcases h2 with h2 | h2
      · exact ⟨e1, h1, .inl ⟨e2, h2, h3⟩⟩
      · exact ⟨e1, h1, .inr (.inl ⟨e2, h2, h3⟩)⟩) ds env h
  exact ⟨e', by rw [h1, h2], h3⟩
theorem upTo_mem : ∀ {n : Nat} {lo : Int} {d : D}, d ∈ upTo lo n → ∃ x : Int, d = .int x ∧ lo ≤ x ∧ x < lo + n
  | 0, lo, d, h => by cases h
  | n + 1, lo, d, h => by
    rcases List.mem_cons.mp h with h | h
    · exact ⟨lo, h, by omega, by omega⟩
    · obtain ⟨x, e, h1, h2⟩ := upTo_mem h
      exact ⟨x, e, by omega, by omega⟩
/-- a loop that no turn leaves, each turn alike -/
theorem for_each {p : Pat} {body : P} (I : Env → Prop) (ds : List D)
    (cons : ∀ d env, d ∈ ds → I env → ∃ e1, bindPat p d env = some e1 ∧ ∃ e2, (body e1 = some (.nx, e2) ∨ body e1 = some (.ct, e2)) ∧ I e2)
    (env : Env) (h : I env) : ∃ e', forL p body ds env = some (.nx, e') ∧ I e' := by
  obtain ⟨e', h1, h2, _⟩ := for_all (p := p) (body := body) (fun l e => I e ∧ ∀ d ∈ l, d ∈ ds) (fun d l env h => by
    obtain ⟨e1, q1, e2, q2, q3⟩ := cons d env (h.2 d List.mem_cons_self) h.1
    exact ⟨e1, q1, e2, q2, q3, fun x hx => h.2 x (List.mem_cons_of_mem _ hx)⟩) ds env ⟨h, fun _ h => h⟩
  exact ⟨e', h1, h2⟩
theorem comp_rule {p : Pat} {vs : List Nat} {t : T} {m : E} (I : List D → List D → Env → Prop)
    (step : ∀ d ds acc env, I (d :: ds) acc env → ∃ e1 b e2, bindPat p d env = some e1 ∧ t e1 = some (b, e2) ∧ (b = true → ∃ r e3, m e2 = some (r, e3) ∧ acc.length < sizeLine ∧ I ds (acc ++ [r]) (clear vs e3)) ∧ (b = false → I ds acc (clear vs e2))) :
    ∀ (ds acc : List D) (env : Env), I ds acc env → ∃ acc' env', compL p vs t m ds acc env = some (.list acc', env') ∧ I [] acc' env'
  | [], acc, env, h => ⟨acc, env, rfl, h⟩
  | d :: ds, acc, env, h => by
    obtain ⟨e1, b, e2, h1, h2, h3, h4⟩ := step d ds acc env h
    cases b with
    | true =>
      obtain ⟨r, e3, k1, k2, k3⟩ := h3 rfl
      obtain ⟨a', e', q1, q2⟩ := comp_rule I step ds _ _ k3
      exact ⟨a', e', by simp only [compL, h1, Option.bind_some, h2, if_true, k1, if_pos k2]; exact q1, q2⟩
    | false =>
      obtain ⟨a', e', q1, q2⟩ := comp_rule I step ds _ _ (h4 rfl)
      exact ⟨a', e', by simp only [compL, h1, Option.bind_some, h2]; simpa using q1, q2⟩
theorem comp_at {it : I} {p : Pat} {vs : List Nat} {t : T} {m : E} {env env1 env2 : Env} {ds : List D} {d : D} (h1 : it env = some (ds, env1)) (h2 : datas vs env1 = true) (h3 : inVs p vs env1.length = true)
    (h4 : compL p vs t m ds [] (clear vs env1) = some (d, env2)) : eComp it p vs t m env = some (d, restore vs env1 env2) := by
  unfold eComp
  rw [h1, Option.bind_some]
  show (if datas vs env1 = true ∧ inVs p vs env1.length = true then _ else none) = _
  rw [if_pos ⟨h2, h3⟩, h4]
  rfl
/-- a slot that holds no object -/
def dat : Option S → Bool
  | some (.l _ _) => false
  | some (.m _ _) => false
  | _ => true
end DL
/-! Plain evaluation, 2: chains, comprehensions, slices. -/
namespace DL
open PySem L2 PyProof.Rows
section
variable {env env0 : Env} {i j n : Nat} {m : E} {t : T} {p : Pat} {vs : List Nat} {d : D} {ds acc : List D} {it : I} {o1 o2 o3 : Opd} {f g : D → D → Option D}
@[simp] theorem ev_chain : eChain f g o1 o2 o3 env = (runOpd o1 env).bind fun x => (runOpd o2 x.2).bind fun y => (x.1.get y.2).bind fun dx => (y.1.get y.2).bind fun dy => match f dx dy with
  | some (.bool true) => (runOpd o3 y.2).bind fun z => (y.1.get z.2).bind fun dy' => (z.1.get z.2).bind fun dz => (g dy' dz).map fun d => (d, z.2)
  | some (.bool false) => some (.bool false, y.2)
  | _ => none := rfl
theorem ev_comp : eComp it p vs t m env = (it env).bind fun a => if datas vs a.2 = true ∧ inVs p vs a.2.length = true then (compL p vs t m a.1 [] (clear vs a.2)).map fun r => (r.1, restore vs a.2 r.2) else none := rfl
@[simp] theorem ev_compL0 : compL p vs t m [] acc env = some (.list acc, env) := rfl
theorem ev_compL1 : compL p vs t m (d :: ds) acc env = (bindPat p d env).bind fun env1 => (t env1).bind fun b =>
    if b.1 = true then (m b.2).bind fun r => if acc.length < sizeLine then compL p vs t m ds (acc ++ [r.1]) (clear vs r.2) else none
    else compL p vs t m ds acc (clear vs b.2) := rfl
@[simp] theorem clear_one : clear [i] env = env.set i none := rfl
@[simp] theorem clear_two : clear [i, j] env = (env.set i none).set j none := rfl
@[simp] theorem restore_one : restore [i] env0 env = env.set i (env0[i]?.bind id) := rfl
@[simp] theorem restore_two : restore [i, j] env0 env = (env.set i (env0[i]?.bind id)).set j (env0[j]?.bind id) := rfl
@[simp] theorem inVs_one : inVs (.v i) [i] n = true := List.all_eq_true.mpr fun j _ => by
  unfold Pat.has
  by_cases h : i = j <;> simp [h]
@[simp] theorem inVs_two : inVs (.t [.v i, .v j]) [i, j] n = true := List.all_eq_true.mpr fun k _ => by
  simp only [Pat.has, Pat.hasL]
  by_cases h : i = k
  · simp [h]
  · by_cases h2 : j = k
    · simp [h2]
    · simp [h, h2]
theorem datas_one : datas [i] env = (match env[i]? with
  | some (some (.l _ _)) => false
  | some (some (.m _ _)) => false
  | _ => true) := Bool.and_true _
@[simp] theorem lt_sizeLine {n : Nat} (h : n < 1000000) : n < sizeLine := Nat.lt_of_lt_of_le h sizeLine_big
@[simp] theorem le_sizeLine {n : Nat} (h : n ≤ 1000000) : n ≤ sizeLine := Nat.le_trans h sizeLine_big
theorem boolsD_map (bs : List Bool) : boolsD (bs.map .bool) = some bs := by
  induction bs with
  | nil => rfl
  | cons b bs ih => show (boolsD (bs.map .bool)).map _ = _; rw [ih]; rfl
theorem ev_all (bs : List Bool) : aAll [.list (bs.map .bool)] = some (.bool (bs.all id)) := by
  show (boolsD (bs.map .bool)).map _ = _; rw [boolsD_map]; rfl
theorem ev_any (bs : List Bool) : aAny [.list (bs.map .bool)] = some (.bool (bs.any id)) := by
  show (boolsD (bs.map .bool)).map _ = _; rw [boolsD_map]; rfl
theorem intsD_map (ns : List Int) : intsD (ns.map .int) = some ns := by
  induction ns with
  | nil => rfl
  | cons b bs ih => show (intsD (bs.map .int)).map _ = _; rw [ih]; rfl
theorem ev_sum (ns : List Int) : aSum [.list (ns.map .int)] = some (.int ns.sum) := by
  show (intsD (ns.map .int)).map _ = _; rw [intsD_map]; rfl
@[simp] theorem ev_all2 {x y : Bool} : aAll [.list [.bool x, .bool y]] = some (.bool (x && y)) := by
  have := ev_all [x, y]; simpa using this
theorem set_get_self {env : Env} {i : Nat} (h : i < env.length) : (env.set i none).set i (env[i]?.bind id) = env := by
  rw [List.set_set]
  refine List.ext_getElem? fun j => ?_
  rw [getElem?_set']
  by_cases e : i = j
  · subst e
    rw [if_pos rfl, if_pos h, List.getElem?_eq_getElem h]
    rfl
  · rw [if_neg e]
/-- a comprehension whose test and element leave the frame as it is -/
theorem comp_pure {it : I} {i : Nat} {t : T} {m : E} {env : Env} {ds : List D} {P : D → Bool} {f : D → D} (h1 : it env = some (ds, env)) (hi : i < env.length) (hd : datas [i] env = true) (hl : ds.length ≤ sizeLine)
    (ht : ∀ d ∈ ds, t (env.set i (some (.d d))) = some (P d, env.set i (some (.d d)))) (hm : ∀ d ∈ ds, P d = true → m (env.set i (some (.d d))) = some (f d, env.set i (some (.d d)))) :
    eComp it (.v i) [i] t m env = some (.list ((ds.filter P).map f), env) := by
  have key : ∀ (rest acc : List D), (∀ d ∈ rest, d ∈ ds) → acc.length + rest.length ≤ sizeLine → compL (.v i) [i] t m rest acc (env.set i none) = some (.list (acc ++ (rest.filter P).map f), env.set i none) := by
    intro rest
    induction rest with
    | nil => intro acc _ _; simp
    | cons d rest ih =>
      intro acc hin hlen
      rw [List.length_cons] at hlen
      have hd' := hin d List.mem_cons_self
      have b1 : bindPat (.v i) d (env.set i none) = some (env.set i (some (.d d))) := by
        simp [hi]
      rw [ev_compL1, b1, Option.bind_some, ht d hd', Option.bind_some]
      have c1 : clear [i] (env.set i (some (S.d d))) = env.set i none := by simp
      cases hp : P d with
      | true =>
        rw [if_pos rfl, hm d hd' hp, Option.bind_some, if_pos (by omega)]
        show compL _ _ _ _ rest (acc ++ [f d]) (clear [i] (env.set i (some (S.d d)))) = _
        rw [c1, ih _ (fun x hx => hin x (List.mem_cons_of_mem _ hx)) (by rw [List.length_append]; simp; omega), List.filter_cons, if_pos hp]
        simp
      | false =>
        rw [if_neg Bool.false_ne_true]
        show compL _ _ _ _ rest acc (clear [i] (env.set i (some (S.d d)))) = _
        rw [c1, ih _ (fun x hx => hin x (List.mem_cons_of_mem _ hx)) (by omega), List.filter_cons, if_neg (by rw [hp]; simp)]
  refine (comp_at h1 hd inVs_one (key ds [] (fun _ h => h) (by simpa using hl))).trans ?_
  rw [restore_one, set_get_self hi]
  simp
@[simp] theorem ev_mutL {g : List D → List D → Option (D × List D)} {ms : List E} : eMutL i g ms env = if (wList env i).isSome = true then (runOpds (allE ms) env).bind fun a => (getAll a.2 a.1).bind fun ds => (wList a.2 i).bind fun w => (g w.2 ds).map fun r => (r.1, a.2.set i (some (.l w.1 r.2))) else none := rfl
@[simp] theorem ev_append {xs : List D} {d : D} : gAppend xs [d] = if xs.length < sizeLine then some (.none, xs ++ [d]) else none := rfl
@[simp] theorem ev_extend {xs ys : List D} : gExtend xs [.list ys] = if xs.length + ys.length ≤ sizeLine then some (.none, xs ++ ys) else none := rfl
@[simp] theorem ev_addLL {xs ys : List D} (h : xs.length + ys.length ≤ 1000000) : aAdd (.list xs) (.list ys) = some (.list (xs ++ ys)) := if_pos (Nat.le_trans h sizeLine_big)
@[simp] theorem ev_catLL {xs ys : List D} (h : xs.length + ys.length ≤ 1000000) : aCat (.list xs) (.list ys) = some (.list (xs ++ ys)) := if_pos (Nat.le_trans h sizeLine_big)
end
end DL
/-! Comprehensions over lists that are told by letters. -/
namespace DL
open PySem L2 PyProof.Rows
theorem comp_gen {α : Type} {it : I} {i : Nat} {t : T} {m : E} {env : Env} {l : List α} {g : α → D} {P : α → Bool} {f : α → D} (h1 : it env = some (l.map g, env)) (hi : i < env.length) (hd : datas [i] env = true) (hl : l.length ≤ sizeLine)
    (ht : ∀ x ∈ l, t (env.set i (some (.d (g x)))) = some (P x, env.set i (some (.d (g x))))) (hm : ∀ x ∈ l, P x = true → m (env.set i (some (.d (g x)))) = some (f x, env.set i (some (.d (g x))))) :
    eComp it (.v i) [i] t m env = some (.list ((l.filter P).map f), env) := by
  have key : ∀ (rest : List α) (acc : List D), (∀ x ∈ rest, x ∈ l) → acc.length + rest.length ≤ sizeLine → compL (.v i) [i] t m (rest.map g) acc (env.set i none) = some (.list (acc ++ (rest.filter P).map f), env.set i none) := by
    intro rest
    induction rest with
    | nil => intro acc _ _; simp
    | cons x rest ih =>
      intro acc hin hlen
      rw [List.length_cons] at hlen
      have hx := hin x List.mem_cons_self
      have b1 : bindPat (.v i) (g x) (env.set i none) = some (env.set i (some (.d (g x)))) := by simp [hi]
      rw [List.map_cons, ev_compL1, b1, Option.bind_some, ht x hx, Option.bind_some]
      have c1 : clear [i] (env.set i (some (S.d (g x)))) = env.set i none := by simp
      cases hp : P x with
      | true =>
        rw [if_pos rfl, hm x hx hp, Option.bind_some, if_pos (by omega)]
        show compL _ _ _ _ (rest.map g) (acc ++ [f x]) (clear [i] (env.set i (some (S.d (g x))))) = _
        rw [c1, ih _ (fun y hy => hin y (List.mem_cons_of_mem _ hy)) (by rw [List.length_append]; simp; omega), List.filter_cons, if_pos hp]
        simp
      | false =>
        rw [if_neg Bool.false_ne_true]
        show compL _ _ _ _ (rest.map g) acc (clear [i] (env.set i (some (S.d (g x))))) = _
        rw [c1, ih _ (fun y hy => hin y (List.mem_cons_of_mem _ hy)) (by omega), List.filter_cons, if_neg (by rw [hp]; simp)]
  refine (comp_at h1 hd inVs_one (key l [] (fun _ h => h) (by simpa using hl))).trans ?_
  rw [restore_one, set_get_self hi]
  simp
theorem comp_map {α : Type} {it : I} {i : Nat} {m : E} {env : Env} {l : List α} {g f : α → D} (h1 : it env = some (l.map g, env)) (hi : i < env.length) (hd : datas [i] env = true) (hl : l.length ≤ sizeLine)
    (hm : ∀ x ∈ l, m (env.set i (some (.d (g x)))) = some (f x, env.set i (some (.d (g x))))) :
    eComp it (.v i) [i] tTrue m env = some (.list (l.map f), env) := by
  have h := comp_gen (P := fun _ => true) (t := tTrue) h1 hi hd hl (fun x _ => rfl) (fun x hx _ => hm x hx)
  rw [List.filter_eq_self.mpr (fun _ _ => rfl)] at h
  exact h
theorem set_set_comm {env : Env} {i j : Nat} (h : i ≠ j) (a b : Option S) : (env.set i a).set j b = (env.set j b).set i a := List.set_comm a b h
/-- .. whose items are pairs, (a, b) -/
theorem comp_two {α : Type} {it : I} {i j : Nat} {m : E} {env : Env} {l : List α} {g1 g2 f : α → D} (h1 : it env = some (l.map fun x => .tuple [g1 x, g2 x], env)) (hij : i ≠ j) (hi : i < env.length) (hj : j < env.length) (hd : datas [i, j] env = true) (hl : l.length ≤ sizeLine)
    (hm : ∀ x ∈ l, m ((env.set i (some (.d (g1 x)))).set j (some (.d (g2 x)))) = some (f x, (env.set i (some (.d (g1 x)))).set j (some (.d (g2 x))))) :
    eComp it (.t [.v i, .v j]) [i, j] tTrue m env = some (.list (l.map f), env) := by
  have key : ∀ (rest : List α) (acc : List D), (∀ x ∈ rest, x ∈ l) → acc.length + rest.length ≤ sizeLine → compL (.t [.v i, .v j]) [i, j] tTrue m (rest.map fun x => .tuple [g1 x, g2 x]) acc ((env.set i none).set j none) = some (.list (acc ++ rest.map f), (env.set i none).set j none) := by
    intro rest
    induction rest with
    | nil => intro acc _ _; simp
    | cons x rest ih =>
      intro acc hin hlen
      rw [List.length_cons] at hlen
      have hx := hin x List.mem_cons_self
      have b0 : ((env.set i none).set j none).set i (some (S.d (g1 x))) = (env.set i (some (S.d (g1 x)))).set j none := by
        rw [set_set_comm (Ne.symm hij), List.set_set]
      have b1 : bindPat (.t [.v i, .v j]) (.tuple [g1 x, g2 x]) ((env.set i none).set j none) = some ((env.set i (some (.d (g1 x)))).set j (some (.d (g2 x)))) := by
        simp [hi, hj, b0]
      rw [List.map_cons, ev_compL1, b1, Option.bind_some, ev_tTrue, Option.bind_some, if_pos rfl, hm x hx, Option.bind_some, if_pos (by omega)]
      have c1 : clear [i, j] ((env.set i (some (S.d (g1 x)))).set j (some (S.d (g2 x)))) = (env.set i none).set j none := by
        rw [clear_two, set_set_comm (Ne.symm hij), List.set_set, List.set_set]
      show compL _ _ _ _ (rest.map _) (acc ++ [f x]) (clear [i, j] _) = _
      rw [c1, ih _ (fun y hy => hin y (List.mem_cons_of_mem _ hy)) (by rw [List.length_append]; simp; omega)]
      simp
  refine (comp_at h1 hd inVs_two (key l [] (fun _ h => h) (by simpa using hl))).trans ?_
  rw [restore_two]
  have e : ((((env.set i none).set j none).set i (env[i]?.bind id)).set j (env[j]?.bind id)) = env := by
    rw [set_set_comm (Ne.symm hij) none (env[i]?.bind id), set_get_self hi, List.set_set]
    have := set_get_self hj
    rw [List.set_set] at this
    exact this
  rw [e]
  simp
theorem upTo_map (n : Nat) : ∀ lo : Int, DL.upTo lo n = (List.range n).map fun i : Nat => PyData.int (lo + i) := by
  induction n with
  | zero => intro lo; rfl
  | succ n ih =>
    intro lo
    rw [List.range_succ_eq_map, List.map_cons, List.map_map]
    show PyData.int lo :: DL.upTo (lo + 1) n = _
    rw [ih]
    congr 1
    · simp
    · refine List.map_congr_left fun i _ => ?_
      show PyData.int (lo + 1 + i) = PyData.int (lo + ((i + 1 : Nat) : Int))
      congr 1
      omega
theorem enumD_map {α : Type} (g : α → D) : ∀ (l : List α) (n : Nat), enumD n (l.map g) = (l.mapIdx fun k x => (n + k, x)).map fun p : Nat × α => .tuple [.int (p.1 : Int), g p.2]
  | [], _ => rfl
  | x :: l, n => by
    show .tuple [.int (n : Int), g x] :: enumD (n + 1) (l.map g) = _
    rw [enumD_map g l (n + 1), List.mapIdx_cons, List.map_cons]
    have : (l.mapIdx fun k x => (n + 1 + k, x)) = l.mapIdx fun i => (fun k x => (n + k, x)) (i + 1) := by
      congr 1
      funext k x
      rw [show n + 1 + k = n + (k + 1) by omega]
    rw [this]
    rfl
end DL
/-! Plain evaluation: dicts. -/
namespace DL
open PySem L2
section
variable {env : Env} {m mk mx : E} {o : Opd} {i : Nat} {kvs : List (D × D)} {y : D} {k : Key}
@[simp] theorem ev_dct0 : eDct0 env = some (.dict [], env) := rfl
theorem ev_setM {key val : E} : pSetM i key val env = (val env).bind fun v => if (peek v.2 i).isSome = true then (key v.2).bind fun y => (keyOf y.1).bind fun ky => (wDict y.2 i).bind fun w =>
  if allK w.2 = true ∧ w.2.length < sizeLine then some (.nx, y.2.set i (some (.m w.1 (dPut w.2 ky v.1)))) else none else none := rfl
theorem ev_dix (c : allK kvs = true) (h : keyOf y = some k) : aDIx (.dict kvs) y = dVal kvs k := by
  show (if allK kvs = true then (keyOf y).bind (dVal kvs) else none) = _
  rw [if_pos c, h]
  rfl
theorem ev_din {f : Bool → Bool} (c : allK kvs = true) (h : keyOf y = some k) : aDIn f y (.dict kvs) = some (.bool (f (dHas kvs k))) := by
  show (if allK kvs = true then (keyOf y).map fun k => PyData.bool (f (dHas kvs k)) else none) = _
  rw [if_pos c, h]
  rfl
theorem ev_keysD {env' : Env} (h : m env = some (.dict kvs, env')) (c : allK kvs = true) : iKeysD m env = some (kvs.map (·.1), env') := by
  unfold iKeysD
  rw [h, Option.bind_some]
  exact if_pos c
theorem allK_nil : allK [] = true := rfl
theorem allK_put {d : D} (c : allK kvs = true) : allK (dPut kvs k d) = true := by
  unfold dPut
  split
  · unfold allK at c ⊢
    rw [List.all_map]
    refine List.all_eq_true.mpr fun x hx => ?_
    have := List.all_eq_true.mp c x hx
    show (keyOf (if keyOf x.1 = some k then (x.1, d) else x).1).isSome = true
    split <;> exact this
  · unfold allK at c ⊢
    rw [List.all_append, c]
    show (true && ((keyOf (keyD k)).isSome && true)) = true
    rw [keyOf_keyD]
    rfl
theorem dVal_put {d : D} {k' : Key} : ∀ {kvs : List (D × D)}, dVal (dPut kvs k d) k' = if k' = k then some d else dVal kvs k' := by
  intro kvs
  have up : ∀ l : List (D × D), dHas l k = true → dVal (l.map fun kv => if keyOf kv.1 = some k then (kv.1, d) else kv) k' = if k' = k then some d else dVal l k' := by
    intro l
    induction l with
    | nil => intro h; cases h
    | cons x l ih =>
      intro h
      rw [List.map_cons]
      by_cases e : keyOf x.1 = some k
      · rw [if_pos e]
        show (if keyOf x.1 = some k' then some d else _) = if k' = k then some d else (if keyOf x.1 = some k' then some x.2 else dVal l k')
        by_cases q : k' = k
        · rw [if_pos q, q, if_pos e]
        · have e' : ¬ keyOf x.1 = some k' := fun z => q (Option.some.inj (z.symm.trans e))
          rw [if_neg e', if_neg q, if_neg e']
          by_cases hl : dHas l k = true
          · rw [ih hl, if_neg q]
          · have hid : (l.map fun kv => if keyOf kv.1 = some k then (kv.1, d) else kv) = l := by
              clear ih h
              induction l with
              | nil => rfl
              | cons z l ih2 =>
                have hz : ¬ keyOf z.1 = some k := fun w => hl (by
                  unfold dHas
                  show (if keyOf z.1 = some k then some z.2 else dVal l k).isSome = true
                  rw [if_pos w]; rfl)
                have hl2 : ¬ dHas l k = true := fun w => hl (by
                  unfold dHas at w ⊢
                  show (if keyOf z.1 = some k then some z.2 else dVal l k).isSome = true
                  rw [if_neg hz]; exact w)
                rw [List.map_cons, if_neg hz, ih2 hl2]
            rw [hid]
      · rw [if_neg e]
        have hl : dHas l k = true := by
          unfold dHas at h ⊢
          have : dVal (x :: l) k = dVal l k := if_neg e
          rw [this] at h
          exact h
        show (if keyOf x.1 = some k' then some x.2 else _) = if k' = k then some d else (if keyOf x.1 = some k' then some x.2 else dVal l k')
        rw [ih hl]
        by_cases q : k' = k
        · have e' : ¬ keyOf x.1 = some k' := fun z => e (q ▸ z)
          rw [if_neg e', if_pos q, if_pos q]
        · rw [if_neg q, if_neg q]
  have app : ∀ l : List (D × D), ¬ dHas l k = true → dVal (l ++ [(keyD k, d)]) k' = if k' = k then some d else dVal l k' := by
    intro l
    induction l with
    | nil =>
      intro _
      show (if keyOf (keyD k) = some k' then some d else none) = _
      rw [keyOf_keyD]
      by_cases q : k' = k
      · rw [if_pos q, if_pos (by rw [q])]
      · rw [if_neg q, if_neg fun z => q (Option.some.inj z).symm]
        rfl
    | cons x l ih =>
      intro h
      have hx : ¬ keyOf x.1 = some k := fun w => h (by
        unfold dHas
        show (if keyOf x.1 = some k then some x.2 else dVal l k).isSome = true
        rw [if_pos w]; rfl)
      have hl : ¬ dHas l k = true := fun w => h (by
        unfold dHas at w ⊢
        show (if keyOf x.1 = some k then some x.2 else dVal l k).isSome = true
        rw [if_neg hx]; exact w)
      show (if keyOf x.1 = some k' then some x.2 else dVal (l ++ [(keyD k, d)]) k') = if k' = k then some d else (if keyOf x.1 = some k' then some x.2 else dVal l k')
      rw [ih hl]
      by_cases q : k' = k
      · have e' : ¬ keyOf x.1 = some k' := fun z => hx (q ▸ z)
        rw [if_neg e', if_pos q, if_pos q]
      · rw [if_neg q, if_neg q]
  unfold dPut
  split
  · rename_i h; exact up kvs h
  · rename_i h; exact app kvs h
end
end DL
/-! Lists of lists of numbers as data: the same, in, index, the least, slices; answers compared with themselves. -/
namespace DL
open PySem L2 PyProof.Rows
abbrev LI (t : List Int) : D := .list (t.map .int)
abbrev LLi (l : List (List Int)) : D := .list (l.map LI)
theorem lay_ints (t : List Int) : PyData.canLayAll0 (t.map .int) = true := by
  induction t with
  | nil => rfl
  | cons x t ih => show (true && PyData.canLayAll0 (t.map .int)) = true; rw [ih]; rfl
theorem depth_ints (t : List Int) : PyData.depthAll (t.map .int) = 0 := PySem.W.depth_ints t
theorem lay_lists (l : List (List Int)) : PyData.canLayAll0 (l.map LI) = true := by
  induction l with
  | nil => rfl
  | cons t l ih =>
    show (PyData.canLayAll0 (t.map .int) && PyData.canLayAll0 (l.map LI)) = true
    rw [ih, lay_ints]; rfl
theorem depth_LI (t : List Int) : (LI t).depth = 1 := by
  show PyData.depthAll (t.map .int) + 1 = 1
  rw [depth_ints]
theorem depth_lists (l : List (List Int)) : PyData.depthAll (l.map LI) ≤ 1 := by
  induction l with
  | nil => exact Nat.zero_le _
  | cons t l ih =>
    show max (LI t).depth (PyData.depthAll (l.map LI)) ≤ 1
    rw [depth_LI]
    exact Nat.max_le.mpr ⟨Nat.le_refl _, ih⟩
theorem shaped_LI (t : List Int) : SeqAt.shaped (LI t) = true := Bool.and_eq_true_iff.mpr ⟨lay_ints t, decide_eq_true (by rw [depth_LI]; decide)⟩
theorem shaped_LL (l : List (List Int)) : SeqAt.shaped (LLi l) = true := Bool.and_eq_true_iff.mpr ⟨lay_lists l, decide_eq_true (by
  have := depth_lists l
  show PyData.depthAll (l.map LI) + 1 ≤ 64
  omega)⟩
theorem eqvAll_ints : ∀ a b : List Int, PyData.eqvAll (a.map .int) (b.map .int) = decide (a = b)
  | [], [] => by simp [PyData.eqvAll]
  | [], y :: b => by simp [PyData.eqvAll]
  | x :: a, [] => by simp [PyData.eqvAll]
  | x :: a, y :: b => by
    show PyData.eqvAll (.int x :: a.map .int) (.int y :: b.map .int) = _
    rw [PySem.W.eqv_all_cons, eqvAll_ints a b]
    have : PyData.eqv (.int x) (.int y) = decide (x = y) := by
      unfold PyData.eqv
      by_cases h : x = y <;> simp [h]
    rw [this]
    by_cases h : x = y
    · subst h; simp
    · simp [h]
theorem eqv_LI (a b : List Int) : PyData.eqv (LI a) (LI b) = decide (a = b) := by
  show PyData.eqv (.list _) (.list _) = _
  unfold PyData.eqv
  exact eqvAll_ints a b
theorem ev_eqLI (a b : List Int) : aEq (LI a) (LI b) = some (.bool (decide (a = b))) := by
  unfold aEq; rw [if_pos ⟨shaped_LI a, shaped_LI b⟩, eqv_LI]
theorem ev_neLI (a b : List Int) : aNe (LI a) (LI b) = some (.bool (!decide (a = b))) := by
  unfold aNe; rw [if_pos ⟨shaped_LI a, shaped_LI b⟩, eqv_LI]
theorem inD_LI (a : List Int) (l : List (List Int)) : inD (LI a) (LLi l) = some (decide (a ∈ l)) := by
  show (if SeqAt.shaped (LI a) = true ∧ SeqAt.shaped (LLi l) = true then some ((l.map LI).any fun z => PyData.eqv z (LI a)) else none) = _
  rw [if_pos ⟨shaped_LI a, shaped_LL l⟩, List.any_map]
  congr 1
  rw [Bool.eq_iff_iff, List.any_eq_true, decide_eq_true_iff]
  constructor
  · rintro ⟨x, hx, e⟩
    have : PyData.eqv (LI x) (LI a) = true := e
    rw [eqv_LI, decide_eq_true_iff] at this
    rwa [← this]
  · intro h
    exact ⟨a, h, by show PyData.eqv (LI a) (LI a) = true; rw [eqv_LI]; simp⟩
theorem ev_inLI (a : List Int) (l : List (List Int)) : aIn (LI a) (LLi l) = some (.bool (decide (a ∈ l))) := by unfold aIn; rw [inD_LI]; rfl
theorem ev_notInLI (a : List Int) (l : List (List Int)) : aNotIn (LI a) (LLi l) = some (.bool (!decide (a ∈ l))) := by unfold aNotIn; rw [inD_LI]; rfl
theorem idx_LI (a : List Int) : ∀ {l : List (List Int)} {i : Nat}, l[i]? = some a → (∀ m, m < i → l[m]? ≠ some a) → idxD (LI a) (l.map LI) = some i
  | [], i, h, _ => by simp at h
  | x :: l, 0, h, _ => by
    simp at h
    subst h
    show (if PyData.eqv (LI x) (LI x) = true then some 0 else _) = _
    rw [eqv_LI, if_pos (by simp)]
  | x :: l, i + 1, h, hn => by
    have h0 : x ≠ a := fun e => hn 0 (by omega) (by rw [e]; rfl)
    show (if PyData.eqv (LI x) (LI a) = true then some 0 else (idxD (LI a) (l.map LI)).map (· + 1)) = _
    rw [eqv_LI, if_neg (by simpa using h0), idx_LI a (by simpa using h) (fun m hm e => hn (m + 1) (by omega) (by simpa using e))]
    rfl
theorem ev_indexLI {a : List Int} {l : List (List Int)} {i : Nat} (h : l[i]? = some a) (hn : ∀ m, m < i → l[m]? ≠ some a) : aIndex (LLi l) [LI a] = some (.int (i : Int)) := by
  show (if SeqAt.shaped (LLi l) = true ∧ SeqAt.shaped (LI a) = true then (idxD (LI a) (l.map LI)).map fun j => PyData.int (j : Nat) else none) = _
  rw [if_pos ⟨shaped_LL l, shaped_LI a⟩, idx_LI a h hn]
  rfl
/-- the least of some lists, and where it stands -/
theorem least_LL {l : List (List Int)} (h : l ≠ []) : ∃ (y : List Int) (s : Nat), s < l.length ∧ aMin [LLi l] = some (LI y) ∧ aIndex (LLi l) [LI y] = some (.int (s : Int)) := by
  cases l with
  | nil => exact absurd rfl h
  | cons x xs =>
    have ok : bestOk ((x :: xs).map LI) = true := by
      unfold bestOk
      simp only [Bool.and_eq_true]
      refine ⟨⟨⟨?_, ?_⟩, decide_eq_true ?_⟩, lay_lists _⟩
      · refine List.all_eq_true.mpr fun a ha => List.all_eq_true.mpr fun b hb => ?_
        obtain ⟨s, _, rfl⟩ := List.mem_map.mp ha
        obtain ⟨t, _, rfl⟩ := List.mem_map.mp hb
        show PySem.W.alikeAll (s.map .int) (t.map .int) = true
        exact PySem.W.alike_ints s t
      · refine List.all_eq_true.mpr fun a ha => ?_
        obtain ⟨s, _, rfl⟩ := List.mem_map.mp ha
        rfl
      · exact Nat.le_trans (depth_lists _) (by decide)
    have hm : PySem.W.minD (LI x) (xs.map LI) ∈ (x :: xs).map LI := fold_mem PySem.W.dataLt (xs.map LI) (LI x)
    obtain ⟨y, hy, e⟩ := List.mem_map.mp hm
    have e1 : aMin [LLi (x :: xs)] = some (LI y) := by
      rw [e]
      show aBest PySem.W.minD [.list (LI x :: xs.map LI)] = _
      exact if_pos ok
    have : ∃ s, s < (x :: xs).length ∧ idxD (LI y) ((x :: xs).map LI) = some s := by
      clear hm e1 ok h e
      generalize x :: xs = l at *
      induction l with
      | nil => cases hy
      | cons z l ih =>
        by_cases hz : z = y
        · subst hz
          exact ⟨0, by simp, idx_LI z rfl fun m hm => absurd hm (Nat.not_lt_zero _)⟩
        · rcases List.mem_cons.mp hy with hy | hy
          · exact absurd hy.symm hz
          · obtain ⟨s, h1, h2⟩ := ih hy
            refine ⟨s + 1, by simpa using h1, ?_⟩
            show (if PyData.eqv (LI z) (LI y) = true then some 0 else (idxD (LI y) (l.map LI)).map (· + 1)) = _
            rw [eqv_LI, if_neg (by simpa using hz), h2]
            rfl
    obtain ⟨s, h1, h2⟩ := this
    refine ⟨y, s, h1, e1, ?_⟩
    show (if SeqAt.shaped (LLi (x :: xs)) = true ∧ SeqAt.shaped (LI y) = true then (idxD (LI y) ((x :: xs).map LI)).map fun j => PyData.int (j : Nat) else none) = _
    rw [if_pos ⟨shaped_LL _, shaped_LI y⟩, h2]
    rfl
/-! ### slices -/
theorem cut_from {α : Type} {xs : List α} {k : Nat} (h : k ≤ xs.length) : cutD xs (some (k : Int)) none = xs.drop k := by
  unfold cutD
  rw [HT.sIx_nat, HT.sIx_none, Nat.min_eq_left h]
  exact List.take_of_length_le (by rw [List.length_drop]; exact Nat.le_refl _)
theorem cut_to {α : Type} {xs : List α} {k : Nat} (h : k ≤ xs.length) : cutD xs none (some (k : Int)) = xs.take k := by
  unfold cutD
  rw [HT.sIx_nat, HT.sIx_none, Nat.min_eq_left h]
  simp
theorem cut_over {α : Type} {xs : List α} {k : Nat} (h : xs.length ≤ k) : cutD xs (some (k : Int)) none = [] := by
  unfold cutD
  rw [HT.sIx_nat, HT.sIx_none, Nat.min_eq_right h]
  simp
section
variable {env : Env} {o : Opd} {lo hi : Prt} {f : Option Int → Option Int → D → Option D}
@[simp] theorem ev_sl : eSl f o lo hi env = (runOpd o env).bind fun a => (runPrt lo a.2).bind fun l => (runPrt hi l.2).bind fun h => (a.1.get h.2).bind fun d => (f l.1 h.1 d).map fun r => (r, h.2) := rfl
@[simp] theorem ev_prt0 : runPrt .no env = some (none, env) := rfl
@[simp] theorem ev_prt1 {m : E} : runPrt (.e m) env = match m env with
  | some (.int i, env1) => some (some i, env1)
  | _ => none := by
  cases h : m env with
  | none => simp [runPrt, h]
  | some p =>
    obtain ⟨d, e⟩ := p
    cases d <;> simp [runPrt, h]
@[simp] theorem ev_slL {xs : List D} {l h : Option Int} : aSlA l h (.list xs) = some (.list (cutD xs l h)) := rfl
@[simp] theorem ev_slT {xs : List D} {l h : Option Int} : aSlA l h (.tuple xs) = some (.tuple (cutD xs l h)) := rfl
@[simp] theorem ev_met {f : D → List D → Option D} {o : Opd} {ms : List E} : eMet f o ms env = (runOpd o env).bind fun a => if (match a.1.get a.2 with | some (.list _) => true | _ => false) = true then (runOpds (allE ms) a.2).bind fun b => (a.1.get b.2).bind fun x => (getAll b.2 b.1).bind fun ds => (f x ds).map fun d => (d, b.2) else none := rfl
@[simp] theorem ev_rev {m : E} : eRev m env = match m env with
  | some (.list xs, env1) => some (.list xs.reverse, env1)
  | _ => none := rfl
end
theorem enumD_range {α : Type} (g : α → D) (dflt : α) : ∀ (l : List α) (n : Nat), enumD n (l.map g) = (List.range l.length).map fun k : Nat => .tuple [.int ((n + k : Nat) : Int), g (l.getD k dflt)]
  | [], _ => rfl
  | x :: l, n => by
    show .tuple [.int (n : Int), g x] :: enumD (n + 1) (l.map g) = _
    rw [enumD_range g dflt l (n + 1), List.length_cons, List.range_succ_eq_map, List.map_cons, List.map_map]
    congr 1
    refine List.map_congr_left fun k _ => ?_
    show PyData.tuple [.int ((n + 1 + k : Nat) : Int), g (l.getD k dflt)] = PyData.tuple [.int ((n + (k + 1) : Nat) : Int), g ((x :: l).getD (k + 1) dflt)]
    rw [show n + 1 + k = n + (k + 1) by omega]
    rfl
end DL
namespace G
open PySem L2 PyProof.Rows DL
def topS (i : Nat) : Stmt := PySem.Challenge.pw_inkwright_k82_whole_ends_of_texts.main.body.getD i (.Pass ⟨0, 0, 0, 0⟩)
abbrev s_law_mixed : Stmt := topS 17
abbrev N_law_mixed : List Str := ["number", "place", "first", "second", "third"]
theorem sc_law_mixed : FnScope N_law_mixed ["number", "place"] (defScope s_law_mixed) := ⟨rfl, rfl, rfl, by decide +kernel, rfl, by decide +kernel, by decide +kernel⟩
def m_law_mixed : DL.P := (pSeq (pSet (.v 2) (eOp2 aMod (.e (eOp aInt [(.e (eOp2 aAdd (.e (eOp2 aAdd (.e (eOp2 aMulI (.p 0) (.e (eK (.int 48271))))) (.e (eOp2 aMulI (.p 1) (.e (eK (.int 69621))))))) (.e (eK (.int 11)))))])) (.e (eK (.int 618970019642690137449562111))))) (pSeq (pSet (.v 3) (eOp2 aMod (.e (eOp aInt [(.e (eOp2 aAdd (.e (eOp2 aAdd (.e (eOp2 aMulI (.p 2) (.p 2))) (.e (eOp2 aMulI (.e (eK (.int 7))) (.p 2))))) (.p 1)))])) (.e (eK (.int 162259276829213363391578010288127))))) (pSeq (pSet (.v 4) (eOp2 aMod (.e (eOp aInt [(.e (eOp2 aAdd (.e (eOp2 aMulI (.p 3) (.p 3))) (.p 2)))])) (.e (eK (.int 618970019642690137449562111))))) (pRet (eOp2 aAdd (.e (eOp2 aMulI (.p 3) (.e (eK (.int 618970019642690137449562111))))) (.p 4))))))
def f_law_mixed : Fn := fnD 5 m_law_mixed
abbrev s_law_rest : Stmt := topS 18
abbrev N_law_rest : List Str := ["script", "place", "fills", "number"]
theorem sc_law_rest : FnScope N_law_rest ["script", "place", "fills"] (defScope s_law_rest) := ⟨rfl, rfl, rfl, by decide +kernel, rfl, by decide +kernel, by decide +kernel⟩
def m_law_rest : DL.P := (pSeq (pSet (.v 3) (eK (.int 0))) (pSeq (pIf (tB (eOp2 aGtI (.e (eOp aLen [(.p 0)])) (.e (eK (.int 0))))) (pSet (.v 3) (eOp aInt [(.e (eOp2 aIx (.p 0) (.e (eOp2 aMod (.e (eOp aInt [(.p 1)])) (.e (eOp aLen [(.p 0)]))))))])) pSkip) (pSeq (pIf (tB (eOp2 aLtI (.p 3) (.e (eK (.int 0))))) (pSet (.v 3) (eOp2 aSub (.e (eK (.int 1))) (.e (eOp2 aMulI (.e (eK (.int 2))) (.p 3))))) pSkip) (pSeq (pIf (tAndD (tB (eOp2 aEq (.p 2) (.e (eK (.int 0))))) (tAndD (tB (eOp2 aLtI (.p 1) (.e (eOp aLen [(.p 0)])))) (tB (eOp2 aGeI (.p 3) (.e (eOp2 aPow (.e (eK (.int 10))) (.e (eK (.int 18))))))))) (pRet (eOp2 aSub (.p 3) (.e (eOp2 aPow (.e (eK (.int 10))) (.e (eK (.int 18))))))) pSkip) (pRet (eCall f_law_mixed [(.e (eOp2 aAdd (.p 3) (.e (eOp2 aMulI (.p 2) (.e (eK (.int 1000003))))))), (.p 1)]))))))
def f_law_rest : Fn := fnD 4 m_law_rest
abbrev s_law_pool : Stmt := topS 19
abbrev N_law_pool : List Str := ["script"]
theorem sc_law_pool : FnScope N_law_pool ["script"] (defScope s_law_pool) := ⟨rfl, rfl, rfl, by decide +kernel, rfl, by decide +kernel, by decide +kernel⟩
def m_law_pool : E := (eOp aLst (allE [(eV 0), (eK (.int 0)), (eCall f_law_rest [(.p 0), (.e (eK (.int 0))), (.e (eK (.int 0)))]), (eK (.int 0))]))
def f_law_pool : Fn := fnD 1 (pRet m_law_pool)
abbrev s_law_next : Stmt := topS 20
abbrev N_law_next : List Str := ["pool"]
theorem sc_law_next : FnScope N_law_next ["pool"] (defScope s_law_next) := ⟨rfl, rfl, rfl, by decide +kernel, rfl, by decide +kernel, by decide +kernel⟩
def m_law_next : DL.P := (pSeq (pSetL 0 (eK (.int 1)) (eOp2 aAdd (.e (eOp2 aIx (.p 0) (.e (eK (.int 1))))) (.e (eK (.int 1))))) (pSeq (pSetL 0 (eK (.int 2)) (eCall f_law_rest [(.e (eOp2 aIx (.p 0) (.e (eK (.int 0))))), (.e (eOp2 aIx (.p 0) (.e (eK (.int 1))))), (.e (eK (.int 0)))])) (pSetL 0 (eK (.int 3)) (eK (.int 0)))))
def f_law_next : Fn := fnD 1 m_law_next
abbrev s_law_draw : Stmt := topS 21
abbrev N_law_draw : List Str := ["pool", "limit", "value"]
theorem sc_law_draw : FnScope N_law_draw ["pool", "limit"] (defScope s_law_draw) := ⟨rfl, rfl, rfl, by decide +kernel, rfl, by decide +kernel, by decide +kernel⟩
def m_law_draw : DL.P := (pSeq (pIf (tB (eOp2 aLeI (.e (eOp2 aIx (.p 0) (.e (eK (.int 2))))) (.e (eK (.int 1))))) (pSeq (pSetL 0 (eK (.int 3)) (eOp2 aAdd (.e (eOp2 aIx (.p 0) (.e (eK (.int 3))))) (.e (eK (.int 1))))) (pSetL 0 (eK (.int 2)) (eCall f_law_rest [(.e (eOp2 aIx (.p 0) (.e (eK (.int 0))))), (.e (eOp2 aIx (.p 0) (.e (eK (.int 1))))), (.e (eOp2 aIx (.p 0) (.e (eK (.int 3)))))]))) pSkip) (pSeq (pSet (.v 2) (eOp2 aMod (.e (eOp aInt [(.e (eOp2 aIx (.p 0) (.e (eK (.int 2)))))])) (.p 1))) (pSeq (pSetL 0 (eK (.int 2)) (eOp2 aDiv (.e (eOp aInt [(.e (eOp2 aIx (.p 0) (.e (eK (.int 2)))))])) (.p 1))) (pRet (eV 2)))))
def f_law_draw : Fn := fnD 3 m_law_draw
abbrev s_law_pick : Stmt := topS 22
abbrev N_law_pick : List Str := ["pool", "options"]
theorem sc_law_pick : FnScope N_law_pick ["pool", "options"] (defScope s_law_pick) := ⟨rfl, rfl, rfl, by decide +kernel, rfl, by decide +kernel, by decide +kernel⟩
def m_law_pick : DL.P := (pRet (eOp2 aIx (.p 1) (.e (eCall f_law_draw [(.p 0), (.e (eOp aLen [(.p 1)]))]))))
def f_law_pick : Fn := fnD 2 m_law_pick
abbrev s_law_letters_drawn : Stmt := topS 26
abbrev N_law_letters_drawn : List Str := ["pool", "most", "letters", "k"]
theorem sc_law_letters_drawn : FnScope N_law_letters_drawn ["pool", "most"] (defScope s_law_letters_drawn) := ⟨rfl, rfl, rfl, by decide +kernel, rfl, by decide +kernel, by decide +kernel⟩
def c_law_letters_drawn_1 : DL.E := (eOp2 aIx (.p 2) (.e (eCall f_law_draw [(.p 0), (.e (eOp aLen [(.p 2)]))])))
def q_law_letters_drawn_1 : DL.P := (pSet (.v 2) (eCall f_law_pick [(.p 0), (.e (eOp aLst (allE [(eK (.str (Str.ofString "ab"))), (eK (.str (Str.ofString "ab"))), (eK (.str (Str.ofString "abc")))])))]))
def q_law_letters_drawn_2 : DL.P := (pRet (eJoin (Str.ofString "") (eComp (iOp rng1 [(.e (eCall f_law_draw [(.p 0), (.e (eOp2 aAdd (.p 1) (.e (eK (.int 1)))))]))]) (.v 3) [3] tTrue c_law_letters_drawn_1)))
def m_law_letters_drawn : DL.P := (pSeq q_law_letters_drawn_1 q_law_letters_drawn_2)
def f_law_letters_drawn : Fn := fnD 4 m_law_letters_drawn
abbrev s_law_book : Stmt := topS 27
abbrev N_law_book : List Str := ["pool", "found", "k", "left", "right", "rule"]
theorem sc_law_book : FnScope N_law_book ["pool"] (defScope s_law_book) := ⟨rfl, rfl, rfl, by decide +kernel, rfl, by decide +kernel, by decide +kernel⟩
def c_law_book_1 : DL.E := (eOp2 aIx (.p 5) (.e (eK (.int 0))))
def q_law_book_1 : DL.P := (pDrop (eCall f_law_next [(.p 0)]))
def q_law_book_2 : DL.P := (pSet (.v 3) (eCall f_law_letters_drawn [(.p 0), (.e (eK (.int 3)))]))
def q_law_book_3 : DL.P := (pSet (.v 3) (eOp2 aAdd (.e (eOp2 aAdd (.p 3) (.e (eOp2 aIx (.e (eK (.str (Str.ofString "ab")))) (.e (eCall f_law_draw [(.p 0), (.e (eK (.int 2)))])))))) (.e (eOp2 aIx (.e (eK (.str (Str.ofString "ab")))) (.e (eCall f_law_draw [(.p 0), (.e (eK (.int 2)))]))))))
def q_law_book_4 : DL.P := (pSet (.v 4) (eSl aSlA (.e (eCall f_law_letters_drawn [(.p 0), (.e (eK (.int 4)))])) .no (.e (eOp2 aSub (.e (eOp aLen [(.p 3)])) (.e (eK (.int 1)))))))
def q_law_book_5 : DL.P := (pIf (tB (eOp2 aNotIn (.p 3) (.e (eRo 1 (eComp (iPk 1) (.v 5) [5] tTrue c_law_book_1))))) (pDrop (eMutL 1 gAppend [(eOp aTup (allE [(eV 3), (eV 4)]))])) pSkip)
def l_law_book_2 : DL.P := (pSeq q_law_book_1 (pSeq q_law_book_2 (pSeq q_law_book_3 (pSeq q_law_book_4 q_law_book_5))))
def q_law_book_6 : DL.P := (pOwn 1 (eOp aLst (allE [])))
def q_law_book_7 : DL.P := (pFor (iOp rng1 [(.e (eOp2 aAdd (.e (eK (.int 1))) (.e (eCall f_law_draw [(.p 0), (.e (eK (.int 5)))]))))]) (.v 2) l_law_book_2)
def q_law_book_8 : DL.P := (pRet (eV 1))
def m_law_book : DL.P := (pSeq q_law_book_6 (pSeq q_law_book_7 q_law_book_8))
def f_law_book : Fn := fnD 6 m_law_book
abbrev s_is_text : Stmt := topS 4
abbrev N_is_text : List Str := ["value", "sign"]
theorem sc_is_text : FnScope N_is_text ["value"] (defScope s_is_text) := ⟨rfl, rfl, rfl, by decide +kernel, rfl, by decide +kernel, by decide +kernel⟩
def c_is_text_1 : DL.E := (eOp2 aIn (.p 1) (.e (eK (.str (Str.ofString "abcdefghijklmnopqrstuvwxyz")))))
def m_is_text : DL.P := (pRet (eAnd (eOp1 (aIsi "str") (.p 0)) (eOp aAll [(.e (eComp (iSeq (eV 0)) (.v 1) [1] tTrue c_is_text_1))])))
def f_is_text : Fn := fnD 2 m_is_text
abbrev s_is_rule : Stmt := topS 5
abbrev N_is_rule : List Str := ["value"]
theorem sc_is_rule : FnScope N_is_rule ["value"] (defScope s_is_rule) := ⟨rfl, rfl, rfl, by decide +kernel, rfl, by decide +kernel, by decide +kernel⟩
def q_is_rule_1 : DL.P := (pIf (tOrD (tNotD (tB (eOp1 (aIsi "tuple") (.p 0)))) (tOrD (tB (eOp2 aNe (.e (eOp aLen [(.p 0)])) (.e (eK (.int 2))))) (tOrD (tNotD (tB (eCall f_is_text [(.e (eOp2 aIx (.p 0) (.e (eK (.int 0)))))]))) (tNotD (tB (eCall f_is_text [(.e (eOp2 aIx (.p 0) (.e (eK (.int 1)))))])))))) (pRet (eK (.bool false))) pSkip)
def q_is_rule_2 : DL.P := (pRet (eChain aLtI aLeI (.e (eOp aLen [(.e (eOp2 aIx (.p 0) (.e (eK (.int 1)))))])) (.e (eOp aLen [(.e (eOp2 aIx (.p 0) (.e (eK (.int 0)))))])) (.e (eK (.int 5)))))
def m_is_rule : DL.P := (pSeq q_is_rule_1 q_is_rule_2)
def f_is_rule : Fn := fnD 1 m_is_rule
abbrev s_is_book : Stmt := topS 6
abbrev N_is_book : List Str := ["value", "rule", "left", "_"]
theorem sc_is_book : FnScope N_is_book ["value"] (defScope s_is_book) := ⟨rfl, rfl, rfl, by decide +kernel, rfl, by decide +kernel, by decide +kernel⟩
def c_is_book_1 : DL.E := (eCall f_is_rule [(.p 1)])
def c_is_book_2 : DL.E := (eV 2)
def q_is_book_1 : DL.P := (pIf (tOrD (tNotD (tB (eOp1 (aIsi "list") (.p 0)))) (tOrD (tB (eOp2 aGtI (.e (eOp aLen [(.p 0)])) (.e (eK (.int 12))))) (tNotD (tB (eOp aAll [(.e (eComp (iSeq (eV 0)) (.v 1) [1] tTrue c_is_book_1))]))))) (pRet (eK (.bool false))) pSkip)
def q_is_book_2 : DL.P := (pRet (eOp2 aEq (.e (eLenSet (eComp (iSeq (eV 0)) (.t [(.v 2), (.v 3)]) [2, 3] tTrue c_is_book_2))) (.e (eOp aLen [(.p 0)]))))
def m_is_book : DL.P := (pSeq q_is_book_1 q_is_book_2)
def f_is_book : Fn := fnD 4 m_is_book
abbrev s_law_steps : Stmt := topS 25
abbrev N_law_steps : List Str := ["rules", "text", "found", "place", "number"]
theorem sc_law_steps : FnScope N_law_steps ["rules", "text"] (defScope s_law_steps) := ⟨rfl, rfl, rfl, by decide +kernel, rfl, by decide +kernel, by decide +kernel⟩
def l_law_steps_1 : DL.P := (pIf (tB (eOp2 aEq (.e (eSl aSlA (.p 1) (.e (eV 3)) (.e (eOp2 aAdd (.p 3) (.e (eOp aLen [(.e (eOp2 aIx (.e (eOp2 aIx (.p 0) (.p 4))) (.e (eK (.int 0)))))])))))) (.e (eOp2 aIx (.e (eOp2 aIx (.p 0) (.p 4))) (.e (eK (.int 0))))))) (pDrop (eMutL 2 gAppend [(eOp aTup (allE [(eV 3), (eV 4)]))])) pSkip)
def l_law_steps_2 : DL.P := (pFor (iOp rng1 [(.e (eOp aLen [(.p 0)]))]) (.v 4) l_law_steps_1)
def q_law_steps_1 : DL.P := (pOwn 2 (eOp aLst (allE [])))
def q_law_steps_2 : DL.P := (pFor (iOp rng1 [(.e (eOp aLen [(.p 1)]))]) (.v 3) l_law_steps_2)
def q_law_steps_3 : DL.P := (pRet (eV 2))
def m_law_steps : DL.P := (pSeq q_law_steps_1 (pSeq q_law_steps_2 q_law_steps_3))
def f_law_steps : Fn := fnD 5 m_law_steps
abbrev s_steps : Stmt := topS 7
abbrev N_steps : List Str := ["rules", "text", "found", "place", "number", "left", "_"]
theorem sc_steps : FnScope N_steps ["rules", "text"] (defScope s_steps) := ⟨rfl, rfl, rfl, by decide +kernel, rfl, by decide +kernel, by decide +kernel⟩
def l_steps_1 : DL.P := (pIf (tB (eOp2 aEq (.e (eSl aSlA (.p 1) (.e (eV 3)) (.e (eOp2 aAdd (.p 3) (.e (eOp aLen [(.p 5)])))))) (.p 5))) (pDrop (eMutL 2 gAppend [(eOp aTup (allE [(eV 3), (eV 4)]))])) pSkip)
def l_steps_2 : DL.P := (pFor (iEnm (eV 0)) (.t [(.v 4), (.t [(.v 5), (.v 6)])]) l_steps_1)
def q_steps_1 : DL.P := (pOwn 2 (eOp aLst (allE [])))
def q_steps_2 : DL.P := (pFor (iOp rng1 [(.e (eOp aLen [(.p 1)]))]) (.v 3) l_steps_2)
def q_steps_3 : DL.P := (pRet (eV 2))
def m_steps : DL.P := (pSeq q_steps_1 (pSeq q_steps_2 q_steps_3))
def f_steps : Fn := fnD 7 m_steps
abbrev s_stepped : Stmt := topS 8
abbrev N_stepped : List Str := ["rules", "text", "step", "place", "number", "left", "right"]
theorem sc_stepped : FnScope N_stepped ["rules", "text", "step"] (defScope s_stepped) := ⟨rfl, rfl, rfl, by decide +kernel, rfl, by decide +kernel, by decide +kernel⟩
def q_stepped_1 : DL.P := (pSet (.t [(.v 3), (.v 4)]) (eV 2))
def q_stepped_2 : DL.P := (pSet (.t [(.v 5), (.v 6)]) (eOp2 aIx (.p 0) (.p 4)))
def q_stepped_3 : DL.P := (pRet (eOp2 aAdd (.e (eOp2 aAdd (.e (eSl aSlA (.p 1) .no (.e (eV 3)))) (.p 6))) (.e (eSl aSlA (.p 1) (.e (eOp2 aAdd (.p 3) (.e (eOp aLen [(.p 5)])))) .no))))
def m_stepped : DL.P := (pSeq q_stepped_1 (pSeq q_stepped_2 q_stepped_3))
def f_stepped : Fn := fnD 7 m_stepped
abbrev s_rows_to : Stmt := topS 9
abbrev N_rows_to : List Str := ["rules", "text", "found", "queue", "at", "here", "step", "other"]
theorem sc_rows_to : FnScope N_rows_to ["rules", "text"] (defScope s_rows_to) := ⟨rfl, rfl, rfl, by decide +kernel, rfl, by decide +kernel, by decide +kernel⟩
def q_rows_to_1 : DL.P := (pSetM 2 (eV 7) (eOp aTup (allE [(eV 5), (eV 6)])))
def q_rows_to_2 : DL.P := (pDrop (eMutL 3 gAppend [(eV 7)]))
def q_rows_to_3 : DL.P := (pSet (.v 7) (eCall f_stepped [(.p 0), (.p 5), (.p 6)]))
def q_rows_to_4 : DL.P := (pIf (tB (eOp2 (aDIn not) (.p 7) (.p 2))) (pSeq q_rows_to_1 q_rows_to_2) pSkip)
def l_rows_to_1 : DL.P := (pSeq q_rows_to_3 q_rows_to_4)
def q_rows_to_5 : DL.P := (pSet (.v 5) (eOp2 aIx (.p 3) (.p 4)))
def q_rows_to_6 : DL.P := (pSet (.v 4) (eOp2 aAdd (.p 4) (.e (eK (.int 1)))))
def q_rows_to_7 : DL.P := (pFor (iSeq (eCall f_steps [(.p 0), (.p 5)])) (.v 6) l_rows_to_1)
def l_rows_to_2 : DL.P := (pSeq q_rows_to_5 (pSeq q_rows_to_6 q_rows_to_7))
def t_rows_to_3 : DL.T := (tB (eOp2 aLtI (.p 4) (.e (eOp aLen [(.p 3)]))))
def q_rows_to_8 : DL.P := (pOwn 2 (eDct1 (eV 1) (eK .none)))
def q_rows_to_9 : DL.P := (pOwn 3 (eOp aLst (allE [(eV 1)])))
def q_rows_to_10 : DL.P := (pSet (.v 4) (eK (.int 0)))
def q_rows_to_11 : DL.P := (pWhile t_rows_to_3 l_rows_to_2 fuel)
def q_rows_to_12 : DL.P := (pRet (eV 2))
def m_rows_to : DL.P := (pSeq q_rows_to_8 (pSeq q_rows_to_9 (pSeq q_rows_to_10 (pSeq q_rows_to_11 q_rows_to_12))))
def f_rows_to : Fn := fnD 8 m_rows_to
abbrev s_ends : Stmt := topS 10
abbrev N_ends : List Str := ["rules", "text", "other"]
theorem sc_ends : FnScope N_ends ["rules", "text"] (defScope s_ends) := ⟨rfl, rfl, rfl, by decide +kernel, rfl, by decide +kernel, by decide +kernel⟩
def c_ends_1 : DL.E := (eV 2)
def t_ends_2 : DL.T := (tNotD (tTru (.e (eCall f_steps [(.p 0), (.p 2)]))))
def m_ends : DL.P := (pRet (eOp aSorted [(.e (eComp (iKeysD (eCall f_rows_to [(.p 0), (.p 1)])) (.v 2) [2] t_ends_2 c_ends_1))]))
def f_ends : Fn := fnD 3 m_ends
abbrev s_first_step : Stmt := topS 11
abbrev N_first_step : List Str := ["rules", "text", "told", "place", "_", "number"]
theorem sc_first_step : FnScope N_first_step ["rules", "text"] (defScope s_first_step) := ⟨rfl, rfl, rfl, by decide +kernel, rfl, by decide +kernel, by decide +kernel⟩
def c_first_step_1 : DL.E := (eOp aTup (allE [(eV 3), (eOp1 aNeg (.e (eOp aLen [(.e (eOp2 aIx (.e (eOp2 aIx (.p 0) (.p 5))) (.e (eK (.int 0)))))]))), (eV 5)]))
def q_first_step_1 : DL.P := (pSet (.v 2) (eComp (iSeq (eCall f_steps [(.p 0), (.p 1)])) (.t [(.v 3), (.v 5)]) [3, 5] tTrue c_first_step_1))
def q_first_step_2 : DL.P := (pIf (tNotD (tTru (.p 2))) (pRet (eK .none)) pSkip)
def q_first_step_3 : DL.P := (pSet (.t [(.v 3), (.v 4), (.v 5)]) (eOp aMin [(.p 2)]))
def q_first_step_4 : DL.P := (pRet (eOp aTup (allE [(eV 3), (eV 5)])))
def m_first_step : DL.P := (pSeq q_first_step_1 (pSeq q_first_step_2 (pSeq q_first_step_3 q_first_step_4)))
def f_first_step : Fn := fnD 6 m_first_step
abbrev s_set_text : Stmt := topS 12
abbrev N_set_text : List Str := ["rules", "text", "row", "step"]
theorem sc_set_text : FnScope N_set_text ["rules", "text"] (defScope s_set_text) := ⟨rfl, rfl, rfl, by decide +kernel, rfl, by decide +kernel, by decide +kernel⟩
def q_set_text_1 : DL.P := (pDrop (eMutL 2 gAppend [(eV 3)]))
def q_set_text_2 : DL.P := (pSet (.v 1) (eCall f_stepped [(.p 0), (.p 1), (.p 3)]))
def q_set_text_3 : DL.P := (pSet (.v 3) (eCall f_first_step [(.p 0), (.p 1)]))
def l_set_text_1 : DL.P := (pSeq q_set_text_1 (pSeq q_set_text_2 q_set_text_3))
def t_set_text_2 : DL.T := (tB (eOp2 aIsNot (.p 3) (.e (eK .none))))
def q_set_text_4 : DL.P := (pOwn 2 (eOp aLst (allE [])))
def q_set_text_5 : DL.P := (pSet (.v 3) (eCall f_first_step [(.p 0), (.p 1)]))
def q_set_text_6 : DL.P := (pWhile t_set_text_2 l_set_text_1 fuel)
def q_set_text_7 : DL.P := (pRet (eOp aTup (allE [(eV 1), (eV 2)])))
def m_set_text : DL.P := (pSeq q_set_text_4 (pSeq q_set_text_5 (pSeq q_set_text_6 q_set_text_7)))
def f_set_text : Fn := fnD 4 m_set_text
abbrev s_law_copied : Stmt := topS 24
abbrev N_law_copied : List Str := ["value", "found", "key", "one"]
theorem sc_law_copied : FnScope N_law_copied ["value"] (defScope s_law_copied) := ⟨rfl, rfl, rfl, by decide +kernel, rfl, by decide +kernel, by decide +kernel⟩
def l_law_copied_1 (self : Fn) : DL.P := (pSetM 1 (eV 2) (eCall self [(.e (eOp2 aIx (.p 0) (.p 2)))]))
def c_law_copied_2 (self : Fn) : DL.E := (eCall self [(.p 3)])
def c_law_copied_3 (self : Fn) : DL.E := (eCall self [(.p 3)])
def m_law_copied (self : Fn) : DL.P := (pSeq (pIf (tB (eOp1 (aIsi "dict") (.p 0))) (pSeq (pOwn 1 eDct0) (pSeq (pFor (iSeq (eV 0)) (.v 2) (l_law_copied_1 self)) (pRet (eV 1)))) pSkip) (pSeq (pIf (tB (eOp1 (aIsi "list") (.p 0))) (pRet (eComp (iSeq (eV 0)) (.v 3) [3] tTrue (c_law_copied_2 self))) pSkip) (pSeq (pIf (tB (eOp1 (aIsi "tuple") (.p 0))) (pRet (eOp aTuple [(.e (eComp (iSeq (eV 0)) (.v 3) [3] tTrue (c_law_copied_3 self)))])) pSkip) (pRet (eV 0)))))
def f_law_copied : Nat → Fn
  | 0 => fun _ => none
  | n + 1 => fnD 4 (m_law_copied (f_law_copied n))
abbrev s_law_stepped : Stmt := topS 28
abbrev N_law_stepped : List Str := ["rules", "text", "step", "left", "right"]
theorem sc_law_stepped : FnScope N_law_stepped ["rules", "text", "step"] (defScope s_law_stepped) := ⟨rfl, rfl, rfl, by decide +kernel, rfl, by decide +kernel, by decide +kernel⟩
def q_law_stepped_1 : DL.P := (pSet (.t [(.v 3), (.v 4)]) (eOp2 aIx (.p 0) (.e (eOp2 aIx (.p 2) (.e (eK (.int 1)))))))
def q_law_stepped_2 : DL.P := (pRet (eOp2 aAdd (.e (eOp2 aAdd (.e (eSl aSlA (.p 1) .no (.e (eOp2 aIx (.p 2) (.e (eK (.int 0))))))) (.p 4))) (.e (eSl aSlA (.p 1) (.e (eOp2 aAdd (.e (eOp2 aIx (.p 2) (.e (eK (.int 0))))) (.e (eOp aLen [(.p 3)])))) .no))))
def m_law_stepped : DL.P := (pSeq q_law_stepped_1 q_law_stepped_2)
def f_law_stepped : Fn := fnD 5 m_law_stepped
abbrev s_law_same : Stmt := topS 23
abbrev N_law_same : List Str := ["answer", "due", "key", "k"]
theorem sc_law_same : FnScope N_law_same ["answer", "due"] (defScope s_law_same) := ⟨rfl, rfl, rfl, by decide +kernel, rfl, by decide +kernel, by decide +kernel⟩
def c_law_same_1 (self : Fn) : DL.E := (eCall self [(.e (eOp2 aIx (.p 0) (.p 3))), (.e (eOp2 aIx (.p 1) (.p 3)))])
def m_law_same (self : Fn) : DL.P := (pSeq (pIf (tB (eOp1 (aIsi "dict") (.p 1))) (pSeq (pIf (tOrD (tNotD (tB (eOp1 (aIsi "dict") (.p 0)))) (tB (eOp2 aNe (.e (eOp aLen [(.p 0)])) (.e (eOp aLen [(.p 1)]))))) (pRet (eK (.bool false))) pSkip) pNever) pSkip) (pSeq (pIf (tOrD (tB (eOp1 (aIsi "list") (.p 1))) (tB (eOp1 (aIsi "tuple") (.p 1)))) (pSeq (pIf (tOrD (tB (eOp2 aNe (.e (eOp1 (aIsi "list") (.p 1))) (.e (eOp1 (aIsi "list") (.p 0))))) (tB (eOp2 aNe (.e (eOp1 (aIsi "tuple") (.p 1))) (.e (eOp1 (aIsi "tuple") (.p 0)))))) (pRet (eK (.bool false))) pSkip) (pRet (eAnd (eOp2 aEq (.e (eOp aLen [(.p 0)])) (.e (eOp aLen [(.p 1)]))) (eOp aAll [(.e (eComp (iOp rng1 [(.e (eOp aLen [(.p 1)]))]) (.v 3) [3] tTrue (c_law_same_1 self)))])))) pSkip) (pSeq (pIf (tB (eOp1 (aIsi "str") (.p 1))) (pRet (eAnd (eOp1 (aIsi "str") (.p 0)) (eOp2 aEq (.p 0) (.p 1)))) pSkip) (pSeq (pIf (tOrD (tB (eOp2 aIs (.p 1) (.e (eK .none)))) (tOrD (tB (eOp2 aIs (.p 1) (.e (eK (.bool true))))) (tB (eOp2 aIs (.p 1) (.e (eK (.bool false))))))) (pRet (eOr (eAnd (eOp2 aIs (.p 1) (.e (eK .none))) (eOp2 aIs (.p 0) (.e (eK .none)))) (eOr (eAnd (eOp2 aIs (.p 1) (.e (eK (.bool true)))) (eOp2 aIs (.p 0) (.e (eK (.bool true))))) (eAnd (eOp2 aIs (.p 1) (.e (eK (.bool false)))) (eOp2 aIs (.p 0) (.e (eK (.bool false)))))))) pSkip) (pRet (eAnd (eOp1 (aIsi "int") (.p 0)) (eAnd (eNotV (eOp1 (aIsi "bool") (.p 0))) (eOp2 aEq (.p 0) (.p 1)))))))))
def f_law_same : Nat → Fn
  | 0 => fun _ => none
  | n + 1 => fnD 4 (m_law_same (f_law_same n))
abbrev s_law_bent : Stmt := topS 32
abbrev N_law_bent : List Str := ["pool", "row", "found", "way", "at"]
theorem sc_law_bent : FnScope N_law_bent ["pool", "row"] (defScope s_law_bent) := ⟨rfl, rfl, rfl, by decide +kernel, rfl, by decide +kernel, by decide +kernel⟩
def q_law_bent_1 : DL.P := (pSet (.v 2) (eOp aList [(.p 1)]))
def q_law_bent_2 : DL.P := (pSet (.v 3) (eCall f_law_draw [(.p 0), (.e (eK (.int 5)))]))
def q_law_bent_3 : DL.P := (pIf (tOrD (tB (eOp2 aEq (.p 2) (.e (eOp aLst (allE []))))) (tB (eOp2 aEq (.p 3) (.e (eK (.int 0)))))) (pRet (eOp2 aCat (.p 2) (.e (eOp aLst (allE [(eOp aTup (allE [(eCall f_law_draw [(.p 0), (.e (eK (.int 4)))]), (eCall f_law_draw [(.p 0), (.e (eK (.int 3)))])]))]))))) pSkip)
def q_law_bent_4 : DL.P := (pSet (.v 4) (eCall f_law_draw [(.p 0), (.e (eOp aLen [(.p 2)]))]))
def q_law_bent_5 : DL.P := (pIf (tB (eOp2 aEq (.p 3) (.e (eK (.int 1))))) (pRet (eOp2 aAdd (.e (eSl aSlA (.p 2) .no (.e (eV 4)))) (.e (eSl aSlA (.p 2) (.e (eOp2 aAdd (.p 4) (.e (eK (.int 1))))) .no)))) pSkip)
def q_law_bent_6 : DL.P := (pIf (tB (eOp2 aEq (.p 3) (.e (eK (.int 2))))) (pRet (eRev (eV 2))) pSkip)
def q_law_bent_7 : DL.P := (pRet (eOp2 aCat (.e (eOp2 aCat (.e (eSl aSlA (.p 2) .no (.e (eV 4)))) (.e (eOp aLst (allE [(eOp aTup (allE [(eOp2 aAdd (.e (eOp2 aIx (.e (eOp2 aIx (.p 2) (.p 4))) (.e (eK (.int 0))))) (.e (eCall f_law_pick [(.p 0), (.e (eOp aLst (allE [(eK (.int 1)), (eOp1 aNeg (.e (eK (.int 1)))), (eK (.int 0))])))]))), (eCall f_law_draw [(.p 0), (.e (eK (.int 5)))])]))]))))) (.e (eSl aSlA (.p 2) (.e (eOp2 aAdd (.p 4) (.e (eK (.int 1))))) .no))))
def m_law_bent : DL.P := (pSeq q_law_bent_1 (pSeq q_law_bent_2 (pSeq q_law_bent_3 (pSeq q_law_bent_4 (pSeq q_law_bent_5 (pSeq q_law_bent_6 q_law_bent_7))))))
def f_law_bent : Fn := fnD 5 m_law_bent
abbrev s_law_led : Stmt := topS 31
abbrev N_law_led : List Str := ["rules", "text", "row", "step"]
theorem sc_law_led : FnScope N_law_led ["rules", "text", "row"] (defScope s_law_led) := ⟨rfl, rfl, rfl, by decide +kernel, rfl, by decide +kernel, by decide +kernel⟩
def q_law_led_1 : DL.P := (pIf (tB (eOp2 aNotIn (.p 3) (.e (eCall f_law_steps [(.p 0), (.p 1)])))) (pRet (eK .none)) pSkip)
def q_law_led_2 : DL.P := (pSet (.v 1) (eCall f_law_stepped [(.p 0), (.p 1), (.p 3)]))
def l_law_led_1 : DL.P := (pSeq q_law_led_1 q_law_led_2)
def q_law_led_3 : DL.P := (pFor (iSeq (eV 2)) (.v 3) l_law_led_1)
def q_law_led_4 : DL.P := (pRet (eV 1))
def m_law_led : DL.P := (pSeq q_law_led_3 q_law_led_4)
def f_law_led : Fn := fnD 4 m_law_led
abbrev s_led_by : Stmt := topS 14
abbrev N_led_by : List Str := ["rules", "text", "row", "step"]
theorem sc_led_by : FnScope N_led_by ["rules", "text", "row"] (defScope s_led_by) := ⟨rfl, rfl, rfl, by decide +kernel, rfl, by decide +kernel, by decide +kernel⟩
def q_led_by_1 : DL.P := (pIf (tB (eOp2 aNotIn (.e (eOp aTuple [(.p 3)])) (.e (eCall f_steps [(.p 0), (.p 1)])))) (pRet (eK .none)) pSkip)
def q_led_by_2 : DL.P := (pSet (.v 1) (eCall f_stepped [(.p 0), (.p 1), (.p 3)]))
def l_led_by_1 : DL.P := (pSeq q_led_by_1 q_led_by_2)
def q_led_by_3 : DL.P := (pFor (iSeq (eV 2)) (.v 3) l_led_by_1)
def q_led_by_4 : DL.P := (pRet (eV 1))
def m_led_by : DL.P := (pSeq q_led_by_3 q_led_by_4)
def f_led_by : Fn := fnD 4 m_led_by
abbrev s_judge_row : Stmt := topS 15
abbrev N_judge_row : List Str := ["rules", "text", "row", "end"]
theorem sc_judge_row : FnScope N_judge_row ["rules", "text", "row", "end"] (defScope s_judge_row) := ⟨rfl, rfl, rfl, by decide +kernel, rfl, by decide +kernel, by decide +kernel⟩
def m_judge_row : DL.P := (pRet (eAnd (eOp2 aEq (.e (eCall f_led_by [(.p 0), (.p 1), (.p 2)])) (.p 3)) (eNotT (.e (eCall f_steps [(.p 0), (.p 3)])))))
def f_judge_row : Fn := fnD 4 m_judge_row
abbrev s_law_wrong : Stmt := topS 33
abbrev N_law_wrong : List Str := ["found", "letter"]
theorem sc_law_wrong : FnScope N_law_wrong [] (defScope s_law_wrong) := ⟨rfl, rfl, rfl, by decide +kernel, rfl, by decide +kernel, by decide +kernel⟩
def c_law_wrong_1 : DL.E := (eOp aTup (allE [(eOp2 aAdd (.e (eK (.str (Str.ofString "a")))) (.p 1)), (eK (.str (Str.ofString "a")))]))
def q_law_wrong_1 : DL.P := (pSet (.v 0) (eOp aLst (allE [(eK .none), eDct0, (eOp aTup (allE [(eOp aTup (allE [(eK (.str (Str.ofString "ab"))), (eK (.str (Str.ofString "c")))]))])), (eOp aLst (allE [(eOp aTup (allE [(eK (.str (Str.ofString "a"))), (eK (.str (Str.ofString "b")))]))])), (eOp aLst (allE [(eOp aTup (allE [(eK (.str (Str.ofString "ab"))), (eK (.str (Str.ofString "cd")))]))])), (eOp aLst (allE [(eOp aTup (allE [(eK (.str (Str.ofString "A"))), (eK (.str (Str.ofString "")))]))])), (eOp aLst (allE [(eOp aLst (allE [(eK (.str (Str.ofString "ab"))), (eK (.str (Str.ofString "c")))]))])), (eOp aLst (allE [(eOp aTup (allE [(eK (.str (Str.ofString "ab")))]))])), (eOp aLst (allE [(eOp aTup (allE [(eK (.str (Str.ofString "ab"))), (eK (.str (Str.ofString "c"))), (eK (.str (Str.ofString "d")))]))])), (eOp aLst (allE [(eOp aTup (allE [(eK (.str (Str.ofString "abcdef"))), (eK (.str (Str.ofString "a")))]))]))])))
def q_law_wrong_2 : DL.P := (pRet (eOp2 aCat (.p 0) (.e (eOp aLst (allE [(eOp aLst (allE [(eOp aTup (allE [(eK (.str (Str.ofString "ab"))), (eK (.str (Str.ofString "c")))])), (eOp aTup (allE [(eK (.str (Str.ofString "ab"))), (eK (.str (Str.ofString "d")))]))])), (eOp aLst (allE [(eOp aTup (allE [(eK (.str (Str.ofString "ab"))), (eK (.int 7))]))])), (eOp aLst (allE [(eOp aTup (allE [(eK (.int 7)), (eK (.str (Str.ofString "a")))]))])), (eComp (iSeq (eK (.str (Str.ofString "abcdefghijklm")))) (.v 1) [1] tTrue c_law_wrong_1), (eOp aLst (allE [(eK (.str (Str.ofString "ab")))]))])))))
def m_law_wrong : DL.P := (pSeq q_law_wrong_1 q_law_wrong_2)
def f_law_wrong : Fn := fnD 2 m_law_wrong
abbrev s_law_spread : Stmt := topS 29
abbrev N_law_spread : List Str := ["rules", "text", "found", "row", "turn", "further", "here", "step", "other"]
theorem sc_law_spread : FnScope N_law_spread ["rules", "text"] (defScope s_law_spread) := ⟨rfl, rfl, rfl, by decide +kernel, rfl, by decide +kernel, by decide +kernel⟩
def q_law_spread_1 : DL.P := (pSetM 2 (eV 8) (eK (.bool true)))
def q_law_spread_2 : DL.P := (pDrop (eMutL 5 gAppend [(eV 8)]))
def q_law_spread_3 : DL.P := (pSet (.v 8) (eCall f_law_stepped [(.p 0), (.p 6), (.p 7)]))
def q_law_spread_4 : DL.P := (pIf (tB (eOp2 (aDIn not) (.p 8) (.p 2))) (pSeq q_law_spread_1 q_law_spread_2) pSkip)
def l_law_spread_1 : DL.P := (pSeq q_law_spread_3 q_law_spread_4)
def l_law_spread_2 : DL.P := (pFor (iSeq (eCall f_law_steps [(.p 0), (.p 6)])) (.v 7) l_law_spread_1)
def q_law_spread_5 : DL.P := (pOwn 5 (eOp aLst (allE [])))
def q_law_spread_6 : DL.P := (pFor (iSeq (eV 3)) (.v 6) l_law_spread_2)
def q_law_spread_7 : DL.P := (pSet (.v 3) (eV 5))
def l_law_spread_3 : DL.P := (pSeq q_law_spread_5 (pSeq q_law_spread_6 q_law_spread_7))
def q_law_spread_8 : DL.P := (pOwn 2 (eDct1 (eV 1) (eK (.bool true))))
def q_law_spread_9 : DL.P := (pSet (.v 3) (eOp aLst (allE [(eV 1)])))
def q_law_spread_10 : DL.P := (pFor (iOp rng1 [(.e (eOp2 aAdd (.e (eOp aLen [(.p 1)])) (.e (eK (.int 1)))))]) (.v 4) l_law_spread_3)
def q_law_spread_11 : DL.P := (pRet (eV 2))
def m_law_spread : DL.P := (pSeq q_law_spread_8 (pSeq q_law_spread_9 (pSeq q_law_spread_10 q_law_spread_11)))
def f_law_spread : Fn := fnD 9 m_law_spread
abbrev s_law_ends : Stmt := topS 30
abbrev N_law_ends : List Str := ["rules", "text", "other"]
theorem sc_law_ends : FnScope N_law_ends ["rules", "text"] (defScope s_law_ends) := ⟨rfl, rfl, rfl, by decide +kernel, rfl, by decide +kernel, by decide +kernel⟩
def c_law_ends_1 : DL.E := (eV 2)
def t_law_ends_2 : DL.T := (tB (eOp2 aEq (.e (eCall f_law_steps [(.p 0), (.p 2)])) (.e (eOp aLst (allE [])))))
def m_law_ends : DL.P := (pRet (eOp aSorted [(.e (eComp (iKeysD (eCall f_law_spread [(.p 0), (.p 1)])) (.v 2) [2] t_law_ends_2 c_law_ends_1))]))
def f_law_ends : Fn := fnD 3 m_law_ends
abbrev s_law : Stmt := topS 34
abbrev N_law : List Str := ["script", "pool", "rules", "k", "text", "handed", "due", "told", "end", "row", "here", "step", "best", "turn", "some", "other", "right", "value", "place", "number"]
theorem sc_law : FnScope N_law ["script"] (defScope s_law) := ⟨rfl, rfl, rfl, by decide +kernel, rfl, by decide +kernel, by decide +kernel⟩
def c_law_1 : DL.E := (eOp2 aEq (.e (eCall f_stepped [(.p 2), (.p 4), (.p 11)])) (.e (eCall f_law_stepped [(.p 2), (.p 4), (.p 11)])))
def c_law_2 : DL.E := (eOp2 aGtI (.e (eOp aLen [(.p 8)])) (.e (eOp aLen [(.p 4)])))
def c_law_3 : DL.E := (eOp aTup (allE [(eV 18), (eOp1 aNeg (.e (eOp aLen [(.e (eOp2 aIx (.e (eOp2 aIx (.p 2) (.p 19))) (.e (eK (.int 0)))))]))), (eV 19)]))
def q_law_1 : DL.P := (pSet (.v 12) (eOp aMin [(.e (eComp (iSeq (eCall f_law_steps [(.p 2), (.p 10)])) (.t [(.v 18), (.v 19)]) [18, 19] tTrue c_law_3))]))
def q_law_2 : DL.P := (pIf (tB (eOp2 aNe (.p 11) (.e (eOp aTup (allE [(eOp2 aIx (.p 12) (.e (eK (.int 0)))), (eOp2 aIx (.p 12) (.e (eK (.int 2))))]))))) (pRet (eK (.bool false))) pSkip)
def q_law_3 : DL.P := (pSet (.v 10) (eCall f_law_stepped [(.p 2), (.p 10), (.p 11)]))
def l_law_4 : DL.P := (pSeq q_law_1 (pSeq q_law_2 q_law_3))
def q_law_4 : DL.P := (pSet (.v 14) (eIf (tB (eOp2 aEq (.p 13) (.e (eK (.int 0))))) (eV 9) (eCall f_law_bent [(.p 1), (.p 9)])))
def q_law_5 : DL.P := (pSet (.v 15) (eCall f_law_pick [(.p 1), (.e (eOp aLst (allE [(eV 8), (eV 4), (eCall f_law_pick [(.p 1), (.p 7)])])))]))
def q_law_6 : DL.P := (pSet (.v 16) (eAnd (eOp2 aEq (.e (eCall f_law_led [(.p 2), (.p 4), (.p 14)])) (.p 15)) (eOp2 aEq (.e (eCall f_law_steps [(.p 2), (.p 15)])) (.e (eOp aLst (allE []))))))
def q_law_7 : DL.P := (pIf (tNotD (tB (eCall (f_law_same 4) [(.e (eCall f_judge_row [(.p 2), (.p 4), (.e (eOp aList [(.p 14)])), (.p 15)])), (.p 16)]))) (pRet (eK (.bool false))) pSkip)
def l_law_5 : DL.P := (pSeq q_law_4 (pSeq q_law_5 (pSeq q_law_6 q_law_7)))
def q_law_8 : DL.P := (pDrop (eCall f_law_next [(.p 1)]))
def q_law_9 : DL.P := (pSet (.v 4) (eCall f_law_letters_drawn [(.p 1), (.e (eK (.int 9)))]))
def q_law_10 : DL.P := (pSet (.v 5) (eOp aList [(.p 2)]))
def q_law_11 : DL.P := (pSet (.v 6) (eCall f_law_steps [(.p 2), (.p 4)]))
def q_law_12 : DL.P := (pSet (.v 7) (eCall f_ends [(.p 5), (.p 4)]))
def q_law_13 : DL.P := (pIf (tOrD (tNotD (tB (eCall (f_law_same 4) [(.e (eOp aLst (allE [(eCall f_steps [(.p 5), (.p 4)]), (eV 7)]))), (.e (eOp aLst (allE [(eV 6), (eCall f_law_ends [(.p 2), (.p 4)])])))]))) (tB (eOp2 aNe (.p 5) (.p 2)))) (pRet (eK (.bool false))) pSkip)
def q_law_14 : DL.P := (pIf (tNotD (tB (eOp aAll [(.e (eComp (iSeq (eV 6)) (.v 11) [11] tTrue c_law_1))]))) (pRet (eK (.bool false))) pSkip)
def q_law_15 : DL.P := (pIf (tB (eOp aAny [(.e (eComp (iSeq (eV 7)) (.v 8) [8] tTrue c_law_2))])) (pRet (eK (.bool false))) pSkip)
def q_law_16 : DL.P := (pSet (.t [(.v 8), (.v 9)]) (eCall f_set_text [(.p 5), (.p 4)]))
def q_law_17 : DL.P := (pSet (.v 10) (eV 4))
def q_law_18 : DL.P := (pFor (iSeq (eV 9)) (.v 11) l_law_4)
def q_law_19 : DL.P := (pIf (tOrD (tB (eOp2 aNe (.p 10) (.p 8))) (tOrD (tB (eOp2 aNe (.e (eCall f_law_steps [(.p 2), (.p 8)])) (.e (eOp aLst (allE []))))) (tB (eOp2 aNotIn (.p 8) (.p 7))))) (pRet (eK (.bool false))) pSkip)
def q_law_20 : DL.P := (pFor (iOp rng1 [(.e (eK (.int 3)))]) (.v 13) l_law_5)
def l_law_6 : DL.P := (pSeq q_law_8 (pSeq q_law_9 (pSeq q_law_10 (pSeq q_law_11 (pSeq q_law_12 (pSeq q_law_13 (pSeq q_law_14 (pSeq q_law_15 (pSeq q_law_16 (pSeq q_law_17 (pSeq q_law_18 (pSeq q_law_19 q_law_20))))))))))))
def c_law_7 : DL.E := (eOp2 aIs (.e (eCall f_is_book [(.p 17)])) (.e (eK (.bool false))))
def q_law_21 : DL.P := (pOwn 1 (eCall f_law_pool [(.p 0)]))
def q_law_22 : DL.P := (pSet (.v 2) (eCall f_law_book [(.p 1)]))
def q_law_23 : DL.P := (pIf (tB (eOp2 aIsNot (.e (eCall f_is_book [(.e (eCall (f_law_copied 4) [(.p 2)]))])) (.e (eK (.bool true))))) (pRet (eK (.bool false))) pSkip)
def q_law_24 : DL.P := (pFor (iOp rng1 [(.e (eK (.int 3)))]) (.v 3) l_law_6)
def q_law_25 : DL.P := (pRet (eAnd (eOp aAll [(.e (eComp (iSeq (eCall f_law_wrong [])) (.v 17) [17] tTrue c_law_7))]) (eOp2 aIs (.e (eCall f_is_book [(.e (eOp aLst (allE [])))])) (.e (eK (.bool true))))))
def m_law : DL.P := (pSeq q_law_21 (pSeq q_law_22 (pSeq q_law_23 (pSeq q_law_24 q_law_25))))
def f_law : Fn := fnD 20 m_law
structure Facts (κ : Kx) (mg : Str → Option Value) : Prop where
  d_law_mixed : ∃ fa fd, mg "_law_mixed" = some (.ref fa) ∧ L2.Fun κ.K "_law_mixed" "_law_mixed" s_law_mixed fa fd ∧ Binds κ.K fd ["number", "place"] []
  d_law_rest : ∃ fa fd, mg "_law_rest" = some (.ref fa) ∧ L2.Fun κ.K "_law_rest" "_law_rest" s_law_rest fa fd ∧ Binds κ.K fd ["script", "place", "fills"] []
  d_law_pool : ∃ fa fd, mg "_law_pool" = some (.ref fa) ∧ L2.Fun κ.K "_law_pool" "_law_pool" s_law_pool fa fd ∧ Binds κ.K fd ["script"] []
  d_law_next : ∃ fa fd, mg "_law_next" = some (.ref fa) ∧ L2.Fun κ.K "_law_next" "_law_next" s_law_next fa fd ∧ Binds κ.K fd ["pool"] []
  d_law_draw : ∃ fa fd, mg "_law_draw" = some (.ref fa) ∧ L2.Fun κ.K "_law_draw" "_law_draw" s_law_draw fa fd ∧ Binds κ.K fd ["pool", "limit"] []
  d_law_pick : ∃ fa fd, mg "_law_pick" = some (.ref fa) ∧ L2.Fun κ.K "_law_pick" "_law_pick" s_law_pick fa fd ∧ Binds κ.K fd ["pool", "options"] []
  d_law_letters_drawn : ∃ fa fd, mg "_law_letters_drawn" = some (.ref fa) ∧ L2.Fun κ.K "_law_letters_drawn" "_law_letters_drawn" s_law_letters_drawn fa fd ∧ Binds κ.K fd ["pool", "most"] []
  d_law_book : ∃ fa fd, mg "_law_book" = some (.ref fa) ∧ L2.Fun κ.K "_law_book" "_law_book" s_law_book fa fd ∧ Binds κ.K fd ["pool"] []
  d_is_text : ∃ fa fd, mg "is_text" = some (.ref fa) ∧ L2.Fun κ.K "is_text" "is_text" s_is_text fa fd ∧ Binds κ.K fd ["value"] []
  d_is_rule : ∃ fa fd, mg "is_rule" = some (.ref fa) ∧ L2.Fun κ.K "is_rule" "is_rule" s_is_rule fa fd ∧ Binds κ.K fd ["value"] []
  d_is_book : ∃ fa fd, mg "is_book" = some (.ref fa) ∧ L2.Fun κ.K "is_book" "is_book" s_is_book fa fd ∧ Binds κ.K fd ["value"] []
  d_law_steps : ∃ fa fd, mg "_law_steps" = some (.ref fa) ∧ L2.Fun κ.K "_law_steps" "_law_steps" s_law_steps fa fd ∧ Binds κ.K fd ["rules", "text"] []
  d_steps : ∃ fa fd, mg "steps" = some (.ref fa) ∧ L2.Fun κ.K "steps" "steps" s_steps fa fd ∧ Binds κ.K fd ["rules", "text"] []
  d_stepped : ∃ fa fd, mg "stepped" = some (.ref fa) ∧ L2.Fun κ.K "stepped" "stepped" s_stepped fa fd ∧ Binds κ.K fd ["rules", "text", "step"] []
  d_rows_to : ∃ fa fd, mg "rows_to" = some (.ref fa) ∧ L2.Fun κ.K "rows_to" "rows_to" s_rows_to fa fd ∧ Binds κ.K fd ["rules", "text"] []
  d_ends : ∃ fa fd, mg "ends" = some (.ref fa) ∧ L2.Fun κ.K "ends" "ends" s_ends fa fd ∧ Binds κ.K fd ["rules", "text"] []
  d_first_step : ∃ fa fd, mg "first_step" = some (.ref fa) ∧ L2.Fun κ.K "first_step" "first_step" s_first_step fa fd ∧ Binds κ.K fd ["rules", "text"] []
  d_set_text : ∃ fa fd, mg "set_text" = some (.ref fa) ∧ L2.Fun κ.K "set_text" "set_text" s_set_text fa fd ∧ Binds κ.K fd ["rules", "text"] []
  d_law_copied : ∃ fa fd, mg "_law_copied" = some (.ref fa) ∧ L2.Fun κ.K "_law_copied" "_law_copied" s_law_copied fa fd ∧ Binds κ.K fd ["value"] []
  d_law_stepped : ∃ fa fd, mg "_law_stepped" = some (.ref fa) ∧ L2.Fun κ.K "_law_stepped" "_law_stepped" s_law_stepped fa fd ∧ Binds κ.K fd ["rules", "text", "step"] []
  d_law_same : ∃ fa fd, mg "_law_same" = some (.ref fa) ∧ L2.Fun κ.K "_law_same" "_law_same" s_law_same fa fd ∧ Binds κ.K fd ["answer", "due"] []
  d_law_bent : ∃ fa fd, mg "_law_bent" = some (.ref fa) ∧ L2.Fun κ.K "_law_bent" "_law_bent" s_law_bent fa fd ∧ Binds κ.K fd ["pool", "row"] []
  d_law_led : ∃ fa fd, mg "_law_led" = some (.ref fa) ∧ L2.Fun κ.K "_law_led" "_law_led" s_law_led fa fd ∧ Binds κ.K fd ["rules", "text", "row"] []
  d_led_by : ∃ fa fd, mg "led_by" = some (.ref fa) ∧ L2.Fun κ.K "led_by" "led_by" s_led_by fa fd ∧ Binds κ.K fd ["rules", "text", "row"] []
  d_judge_row : ∃ fa fd, mg "judge_row" = some (.ref fa) ∧ L2.Fun κ.K "judge_row" "judge_row" s_judge_row fa fd ∧ Binds κ.K fd ["rules", "text", "row", "end"] []
  d_law_wrong : ∃ fa fd, mg "_law_wrong" = some (.ref fa) ∧ L2.Fun κ.K "_law_wrong" "_law_wrong" s_law_wrong fa fd ∧ Binds κ.K fd [] []
  d_law_spread : ∃ fa fd, mg "_law_spread" = some (.ref fa) ∧ L2.Fun κ.K "_law_spread" "_law_spread" s_law_spread fa fd ∧ Binds κ.K fd ["rules", "text"] []
  d_law_ends : ∃ fa fd, mg "_law_ends" = some (.ref fa) ∧ L2.Fun κ.K "_law_ends" "_law_ends" s_law_ends fa fd ∧ Binds κ.K fd ["rules", "text"] []
  d_law : ∃ fa fd, mg "law" = some (.ref fa) ∧ L2.Fun κ.K "law" "law" s_law fa fd ∧ Binds κ.K fd ["script"] []
  z_all : mg "all" = none
  z_any : mg "any" = none
  z_bool : mg "bool" = none
  z_dict : mg "dict" = none
  z_enumerate : mg "enumerate" = none
  z_int : mg "int" = none
  z_isinstance : mg "isinstance" = none
  z_len : mg "len" = none
  z_list : mg "list" = none
  z_min : mg "min" = none
  z_range : mg "range" = none
  z_set : mg "set" = none
  z_sorted : mg "sorted" = none
  z_str : mg "str" = none
  z_tuple : mg "tuple" = none
  n_LETTERS : ∃ t, mg "LETTERS" = some (.str (Str.ofString "abcdefghijklmnopqrstuvwxyz") t)
  n_MOST_LEFT : ∃ t, mg "MOST_LEFT" = some (.int 5 t)
  n_MOST_RULES : ∃ t, mg "MOST_RULES" = some (.int 12 t)
section
variable {pr : Program} {w : World} {κ : Kx} {mg : Str → Option Value} {base : Heap}
theorem g_law_mixed (T : Facts κ mg) : Gbl κ pr w mg base "_law_mixed" ["number", "place"] 1 f_law_mixed := by
  obtain ⟨fa, fd, a1, a2, a3⟩ := T.d_law_mixed
  refine ⟨fa, fd, a1, a2.kp, a3, fn_ok (N := N_law_mixed) (m := m_law_mixed) a2 sc_law_mixed fun cdv A outer s H E hr => ?_⟩
  have nd := sc_law_mixed.nd
  have hu := hr.units
  exact (sd_cons (sd_set (ps_set (i := 2) nd rfl (by first | exact Or.inl rfl | exact Or.inr rfl) (ed_bin op_modB d_mod (od_e (ed_ty call_intB n_int (by rfl) T.z_int bt_int (os_cons (od_e (ed_bin op_addAll d_add (od_e (ed_bin op_addAll d_add (od_e (ed_bin op_mulB d_mulI (od_p (pv 0)) (od_e (ed_const pe_int (fun _ => .int _))))) (od_e (ed_bin op_mulB d_mulI (od_p (pv 1)) (od_e (ed_const pe_int (fun _ => .int _))))))) (od_e (ed_const pe_int (fun _ => .int _))))) os_nil))) (od_e (ed_const pe_int (fun _ => .int _)))) (by rfl))) (sd_cons (sd_set (ps_set (i := 3) nd rfl (by first | exact Or.inl rfl | exact Or.inr rfl) (ed_bin op_modB d_mod (od_e (ed_ty call_intB n_int (by rfl) T.z_int bt_int (os_cons (od_e (ed_bin op_addAll d_add (od_e (ed_bin op_addAll d_add (od_e (ed_bin op_mulB d_mulI (od_p (pv 2)) (od_p (pv 2)))) (od_e (ed_bin op_mulB d_mulI (od_e (ed_const pe_int (fun _ => .int _))) (od_p (pv 2)))))) (od_p (pv 1)))) os_nil))) (od_e (ed_const pe_int (fun _ => .int _)))) (by rfl))) (sd_cons (sd_set (ps_set (i := 4) nd rfl (by first | exact Or.inl rfl | exact Or.inr rfl) (ed_bin op_modB d_mod (od_e (ed_ty call_intB n_int (by rfl) T.z_int bt_int (os_cons (od_e (ed_bin op_addAll d_add (od_e (ed_bin op_mulB d_mulI (od_p (pv 3)) (od_p (pv 3)))) (od_p (pv 2)))) os_nil))) (od_e (ed_const pe_int (fun _ => .int _)))) (by rfl))) (sd_one (sd_ret (ed_bin op_addAll d_add (od_e (ed_bin op_mulB d_mulI (od_p (pv 3)) (od_e (ed_const pe_int (fun _ => .int _))))) (od_p (pv 4))))))))
theorem g_law_rest (T : Facts κ mg) : Gbl κ pr w mg base "_law_rest" ["script", "place", "fills"] 2 f_law_rest := by
  obtain ⟨fa, fd, a1, a2, a3⟩ := T.d_law_rest
  refine ⟨fa, fd, a1, a2.kp, a3, fn_ok (N := N_law_rest) (m := m_law_rest) a2 sc_law_rest fun cdv A outer s H E hr => ?_⟩
  have nd := sc_law_rest.nd
  have hu := hr.units
  exact (sd_cons (sd_set (ps_set (i := 3) nd rfl (by first | exact Or.inl rfl | exact Or.inr rfl) (ed_const pe_int (fun _ => .int _)) (by rfl))) (sd_cons (sd_if (td_cmp op_gt d_gtI (od_e (ed_blt call_lenAll n_len (by rfl) T.z_len bt_len (os_cons (od_p (pv 0)) os_nil))) (od_e (ed_const pe_int (fun _ => .int _))) (by rfl)) (sd_one (sd_set (ps_set (i := 3) nd rfl (by first | exact Or.inl rfl | exact Or.inr rfl) (ed_ty call_intB n_int (by rfl) T.z_int bt_int (os_cons (od_e (ed_ix ix_seq d_ix (od_p (pv 0)) (od_e (ed_bin op_modB d_mod (od_e (ed_ty call_intB n_int (by rfl) T.z_int bt_int (os_cons (od_p (pv 1)) os_nil))) (od_e (ed_blt call_lenAll n_len (by rfl) T.z_len bt_len (os_cons (od_p (pv 0)) os_nil))))) (fun _ _ => rfl))) os_nil)) (by rfl)))) sd_nil) (sd_cons (sd_if (td_cmp op_lt d_ltI (od_p (pv 3)) (od_e (ed_const pe_int (fun _ => .int _))) (by rfl)) (sd_one (sd_set (ps_set (i := 3) nd rfl (by first | exact Or.inl rfl | exact Or.inr rfl) (ed_bin op_subC d_sub (od_e (ed_const pe_int (fun _ => .int _))) (od_e (ed_bin op_mulB d_mulI (od_e (ed_const pe_int (fun _ => .int _))) (od_p (pv 3))))) (by rfl)))) sd_nil) (sd_cons (sd_if (PW.pt (tw_and (td_cmp (op_eqD hu) d_eq (od_p (pv 2)) (od_e (ed_const pe_int (fun _ => .int _))) (by rfl)) (tw_and (td_cmp op_lt d_ltI (od_p (pv 1)) (od_e (ed_blt call_lenAll n_len (by rfl) T.z_len bt_len (os_cons (od_p (pv 0)) os_nil))) (by rfl)) (tw_and1 (td_cmp op_ge d_geI (od_p (pv 3)) (od_e (ed_bin op_pow d_pow (od_e (ed_const pe_int (fun _ => .int _))) (od_e (ed_const pe_int (fun _ => .int _))))) (by rfl)))))) (sd_one (sd_ret (ed_bin op_subC d_sub (od_p (pv 3)) (od_e (ed_bin op_pow d_pow (od_e (ed_const pe_int (fun _ => .int _))) (od_e (ed_const pe_int (fun _ => .int _)))))))) sd_nil) (sd_one (sd_ret (ed_call rfl (g_law_mixed T) (hr.mono (by decide)) (by rfl) (os_cons (od_e (ed_bin op_addAll d_add (od_p (pv 3)) (od_e (ed_bin op_mulB d_mulI (od_p (pv 2)) (od_e (ed_const pe_int (fun _ => .int _))))))) (os_cons (od_p (pv 1)) os_nil)) rfl)))))))
theorem g_law_pool (T : Facts κ mg) : GblN κ pr w mg base "_law_pool" ["script"] 3 f_law_pool := by
  obtain ⟨fa, fd, a1, a2, a3⟩ := T.d_law_pool
  refine ⟨fa, fd, a1, a2.kp, a3, fn_okN (N := N_law_pool) (m := m_law_pool) a2 sc_law_pool rfl fun cdv A outer s H E hr => ?_⟩
  have nd := sc_law_pool.nd
  have hu := hr.units
  exact (eo_lst (os_cons (od_e (ed_var (pv 0))) (os_cons (od_e (ed_const pe_int (fun _ => .int _))) (os_cons (od_e (ed_call rfl (g_law_rest T) (hr.mono (by decide)) (by rfl) (os_cons (od_p (pv 0)) (os_cons (od_e (ed_const pe_int (fun _ => .int _))) (os_cons (od_e (ed_const pe_int (fun _ => .int _))) os_nil))) rfl)) (os_cons (od_e (ed_const pe_int (fun _ => .int _))) os_nil)))))
theorem g_law_next (T : Facts κ mg) : Gbl κ pr w mg base "_law_next" ["pool"] 3 f_law_next := by
  obtain ⟨fa, fd, a1, a2, a3⟩ := T.d_law_next
  refine ⟨fa, fd, a1, a2.kp, a3, fn_ok (N := N_law_next) (m := m_law_next) a2 sc_law_next fun cdv A outer s H E hr => ?_⟩
  have nd := sc_law_next.nd
  have hu := hr.units
  exact (sd_cons (sd_setL (pv 0) (ed_const pe_int (fun _ => .int _)) (ed_bin op_addAll d_add (od_e (ed_ix ix_seq d_ix (od_p (pv 0)) (od_e (ed_const pe_int (fun _ => .int _))) (fun _ _ => rfl))) (od_e (ed_const pe_int (fun _ => .int _))))) (sd_cons (sd_setL (pv 0) (ed_const pe_int (fun _ => .int _)) (ed_call rfl (g_law_rest T) (hr.mono (by decide)) (by rfl) (os_cons (od_e (ed_ix ix_seq d_ix (od_p (pv 0)) (od_e (ed_const pe_int (fun _ => .int _))) (fun _ _ => rfl))) (os_cons (od_e (ed_ix ix_seq d_ix (od_p (pv 0)) (od_e (ed_const pe_int (fun _ => .int _))) (fun _ _ => rfl))) (os_cons (od_e (ed_const pe_int (fun _ => .int _))) os_nil))) rfl)) (sd_one (sd_setL (pv 0) (ed_const pe_int (fun _ => .int _)) (ed_const pe_int (fun _ => .int _))))))
theorem g_law_draw (T : Facts κ mg) : Gbl κ pr w mg base "_law_draw" ["pool", "limit"] 3 f_law_draw := by
  obtain ⟨fa, fd, a1, a2, a3⟩ := T.d_law_draw
  refine ⟨fa, fd, a1, a2.kp, a3, fn_ok (N := N_law_draw) (m := m_law_draw) a2 sc_law_draw fun cdv A outer s H E hr => ?_⟩
  have nd := sc_law_draw.nd
  have hu := hr.units
  exact (sd_cons (sd_if (td_cmp op_le d_leI (od_e (ed_ix ix_seq d_ix (od_p (pv 0)) (od_e (ed_const pe_int (fun _ => .int _))) (fun _ _ => rfl))) (od_e (ed_const pe_int (fun _ => .int _))) (by rfl)) (sd_cons (sd_setL (pv 0) (ed_const pe_int (fun _ => .int _)) (ed_bin op_addAll d_add (od_e (ed_ix ix_seq d_ix (od_p (pv 0)) (od_e (ed_const pe_int (fun _ => .int _))) (fun _ _ => rfl))) (od_e (ed_const pe_int (fun _ => .int _))))) (sd_one (sd_setL (pv 0) (ed_const pe_int (fun _ => .int _)) (ed_call rfl (g_law_rest T) (hr.mono (by decide)) (by rfl) (os_cons (od_e (ed_ix ix_seq d_ix (od_p (pv 0)) (od_e (ed_const pe_int (fun _ => .int _))) (fun _ _ => rfl))) (os_cons (od_e (ed_ix ix_seq d_ix (od_p (pv 0)) (od_e (ed_const pe_int (fun _ => .int _))) (fun _ _ => rfl))) (os_cons (od_e (ed_ix ix_seq d_ix (od_p (pv 0)) (od_e (ed_const pe_int (fun _ => .int _))) (fun _ _ => rfl))) os_nil))) rfl)))) sd_nil) (sd_cons (sd_set (ps_set (i := 2) nd rfl (by first | exact Or.inl rfl | exact Or.inr rfl) (ed_bin op_modB d_mod (od_e (ed_ty call_intB n_int (by rfl) T.z_int bt_int (os_cons (od_e (ed_ix ix_seq d_ix (od_p (pv 0)) (od_e (ed_const pe_int (fun _ => .int _))) (fun _ _ => rfl))) os_nil))) (od_p (pv 1))) (by rfl))) (sd_cons (sd_setL (pv 0) (ed_const pe_int (fun _ => .int _)) (ed_bin op_divB d_div (od_e (ed_ty call_intB n_int (by rfl) T.z_int bt_int (os_cons (od_e (ed_ix ix_seq d_ix (od_p (pv 0)) (od_e (ed_const pe_int (fun _ => .int _))) (fun _ _ => rfl))) os_nil))) (od_p (pv 1)))) (sd_one (sd_ret (ed_var (pv 2)))))))
theorem g_law_pick (T : Facts κ mg) : Gbl κ pr w mg base "_law_pick" ["pool", "options"] 4 f_law_pick := by
  obtain ⟨fa, fd, a1, a2, a3⟩ := T.d_law_pick
  refine ⟨fa, fd, a1, a2.kp, a3, fn_ok (N := N_law_pick) (m := m_law_pick) a2 sc_law_pick fun cdv A outer s H E hr => ?_⟩
  have nd := sc_law_pick.nd
  have hu := hr.units
  exact (sd_one (sd_ret (ed_ix ix_seq d_ix (od_p (pv 1)) (od_e (ed_call rfl (g_law_draw T) (hr.mono (by decide)) (by rfl) (os_cons (od_p (pv 0)) (os_cons (od_e (ed_blt call_lenAll n_len (by rfl) T.z_len bt_len (os_cons (od_p (pv 1)) os_nil))) os_nil)) rfl)) (fun _ _ => rfl))))
theorem g_law_letters_drawn (T : Facts κ mg) : Gbl κ pr w mg base "_law_letters_drawn" ["pool", "most"] 5 f_law_letters_drawn := by
  obtain ⟨fa, fd, a1, a2, a3⟩ := T.d_law_letters_drawn
  refine ⟨fa, fd, a1, a2.kp, a3, fn_ok (N := N_law_letters_drawn) (m := m_law_letters_drawn) a2 sc_law_letters_drawn fun cdv A outer s H E hr => ?_⟩
  have nd := sc_law_letters_drawn.nd
  have hu := hr.units
  exact (sd_cons (sd_set (ps_set (i := 2) nd rfl (by first | exact Or.inl rfl | exact Or.inr rfl) (ed_call rfl (g_law_pick T) (hr.mono (by decide)) (by rfl) (os_cons (od_p (pv 0)) (os_cons (od_e (ed_of (eo_lst (os_cons (od_e (ed_const pe_str (fun _ => .str _))) (os_cons (od_e (ed_const pe_str (fun _ => .str _))) (os_cons (od_e (ed_const pe_str (fun _ => .str _))) os_nil)))))) os_nil)) rfl) (by rfl))) (sd_one (sd_ret (ed_join (ed_of (eo_comp (own := [(("k" : Str), 3)]) (pe_lc (own := [(("k" : Str), 3)]) rfl nd (it_range1 (by rfl) T.z_range (os_cons (od_e (ed_call rfl (g_law_draw T) (hr.mono (by decide)) (by rfl) (os_cons (od_p (pv 0)) (os_cons (od_e (ed_bin op_addAll d_add (od_p (pv 1)) (od_e (ed_const pe_int (fun _ => .int _))))) os_nil)) rfl)) os_nil)) (blkOk_by (N := N_law_letters_drawn) (sc := defScope s_law_letters_drawn) (by decide +kernel)) (fun _ _ _ _ _ => (gd_name (pg_name nd rfl (by first | exact Or.inl rfl | exact Or.inr rfl)))) (fun _ _ _ _ _ => tt_nil) (fun _ _ _ _ _ => (ed_ix ix_seq d_ix (od_p (pv 2)) (od_e (ed_call rfl (g_law_draw T) (hr.mono (by decide)) (by rfl) (os_cons (od_p (pv 0)) (os_cons (od_e (ed_blt call_lenAll n_len (by rfl) T.z_len bt_len (os_cons (od_p (pv 2)) os_nil))) os_nil)) rfl)) (fun _ _ => rfl))))))))))
theorem g_law_book (T : Facts κ mg) : Gbl κ pr w mg base "_law_book" ["pool"] 6 f_law_book := by
  obtain ⟨fa, fd, a1, a2, a3⟩ := T.d_law_book
  refine ⟨fa, fd, a1, a2.kp, a3, fn_ok (N := N_law_book) (m := m_law_book) a2 sc_law_book fun cdv A outer s H E hr => ?_⟩
  have nd := sc_law_book.nd
  have hu := hr.units
  exact (sd_cons (sd_own (ps_set (i := 1) nd rfl (by first | exact Or.inl rfl | exact Or.inr rfl) (eo_lst os_nil) (by rfl))) (sd_cons (sd_for PassesOwn.never rfl (it_range1 (by rfl) T.z_range (os_cons (od_e (ed_bin op_addAll d_add (od_e (ed_const pe_int (fun _ => .int _))) (od_e (ed_call rfl (g_law_draw T) (hr.mono (by decide)) (by rfl) (os_cons (od_p (pv 0)) (os_cons (od_e (ed_const pe_int (fun _ => .int _))) os_nil)) rfl)))) os_nil)) (gd_name (pg_name nd rfl (by first | exact Or.inl rfl | exact Or.inr rfl))) (sd_cons (sd_expr (ed_call rfl (g_law_next T) (hr.mono (by decide)) (by rfl) (os_cons (od_p (pv 0)) os_nil) rfl)) (sd_cons (sd_set (ps_set (i := 3) nd rfl (by first | exact Or.inl rfl | exact Or.inr rfl) (ed_call rfl (g_law_letters_drawn T) (hr.mono (by decide)) (by rfl) (os_cons (od_p (pv 0)) (os_cons (od_e (ed_const pe_int (fun _ => .int _))) os_nil)) rfl) (by rfl))) (sd_cons (sd_set (ps_set (i := 3) nd rfl (by first | exact Or.inl rfl | exact Or.inr rfl) (ed_bin op_addAll d_add (od_e (ed_bin op_addAll d_add (od_p (pv 3)) (od_e (ed_ix ix_seq d_ix (od_e (ed_const pe_str (fun _ => .str _))) (od_e (ed_call rfl (g_law_draw T) (hr.mono (by decide)) (by rfl) (os_cons (od_p (pv 0)) (os_cons (od_e (ed_const pe_int (fun _ => .int _))) os_nil)) rfl)) (fun _ _ => rfl))))) (od_e (ed_ix ix_seq d_ix (od_e (ed_const pe_str (fun _ => .str _))) (od_e (ed_call rfl (g_law_draw T) (hr.mono (by decide)) (by rfl) (os_cons (od_p (pv 0)) (os_cons (od_e (ed_const pe_int (fun _ => .int _))) os_nil)) rfl)) (fun _ _ => rfl)))) (by rfl))) (sd_cons (sd_set (ps_set (i := 4) nd rfl (by first | exact Or.inl rfl | exact Or.inr rfl) (ed_sl sl_any d_slA (od_e (ed_call rfl (g_law_letters_drawn T) (hr.mono (by decide)) (by rfl) (os_cons (od_p (pv 0)) (os_cons (od_e (ed_const pe_int (fun _ => .int _))) os_nil)) rfl)) pr_no (pr_e (ed_bin op_subC d_sub (od_e (ed_blt call_lenAll n_len (by rfl) T.z_len bt_len (os_cons (od_p (pv 3)) os_nil))) (od_e (ed_const pe_int (fun _ => .int _)))))) (by rfl))) (sd_one (sd_if (td_cmp (op_notInA (room65 hr)) d_notIn (od_p (pv 3)) (od_e (ed_of (eo_ro (eo_comp (own := [(("rule" : Str), 5)]) (pe_lc (own := [(("rule" : Str), 5)]) rfl nd (it_pk rfl (pv 1)) (blkOk_by (N := N_law_book) (sc := defScope s_law_book) (by decide +kernel)) (fun _ _ _ _ _ => (gd_name (pg_name nd rfl (by first | exact Or.inl rfl | exact Or.inr rfl)))) (fun _ _ _ _ _ => tt_nil) (fun _ _ _ _ _ => (ed_ix ix_seq d_ix (od_p (pv 5)) (od_e (ed_const pe_int (fun _ => .int _))) (fun _ _ => rfl)))))))) (by rfl)) (sd_one (sd_expr (ed_mutL rfl m_append PySem.F.slot_list_append PySem.F.type_list_append mt_append (pv 1) (os_cons (od_e (ed_tup (os_cons (od_e (ed_var (pv 3))) (os_cons (od_e (ed_var (pv 4))) os_nil)))) os_nil)))) sd_nil))))))) (sd_one (sd_ret (ed_var (pv 1))))))
theorem g_is_text (T : Facts κ mg) : Gbl κ pr w mg base "is_text" ["value"] 1 f_is_text := by
  obtain ⟨fa, fd, a1, a2, a3⟩ := T.d_is_text
  refine ⟨fa, fd, a1, a2.kp, a3, fn_ok (N := N_is_text) (m := m_is_text) a2 sc_is_text fun cdv A outer s H E hr => ?_⟩
  have nd := sc_is_text.nd
  have hu := hr.units
  exact (sd_one (sd_ret (ed_and (ed_isi rfl (by rfl) T.z_isinstance (od_p (pv 0)) (pe_bltn (by rfl) T.z_str bt_str rfl) bt_isinstance) (ed_one (ed_blt (cr_all rfl) n_all (by rfl) T.z_all bt_all (os_cons (od_e (ed_of (eo_comp (own := [(("sign" : Str), 1)]) (pe_lc (own := [(("sign" : Str), 1)]) rfl nd (it_seq rfl (ed_var (pv 0))) (blkOk_by (N := N_is_text) (sc := defScope s_is_text) (by decide +kernel)) (fun _ _ _ _ _ => (gd_name (pg_name nd rfl (by first | exact Or.inl rfl | exact Or.inr rfl)))) (fun _ _ _ _ _ => tt_nil) (fun _ _ _ _ _ => (ed_cmp (op_inA (room65 hr)) d_in (od_p (pv 1)) (od_e (ed_gstr T.n_LETTERS)) (by rfl))))))) os_nil))))))
theorem g_is_rule (T : Facts κ mg) : Gbl κ pr w mg base "is_rule" ["value"] 2 f_is_rule := by
  obtain ⟨fa, fd, a1, a2, a3⟩ := T.d_is_rule
  refine ⟨fa, fd, a1, a2.kp, a3, fn_ok (N := N_is_rule) (m := m_is_rule) a2 sc_is_rule fun cdv A outer s H E hr => ?_⟩
  have nd := sc_is_rule.nd
  have hu := hr.units
  exact (sd_cons (sd_if (PW.pt (tw_or (td_not (td_val (ed_isi rfl (by rfl) T.z_isinstance (od_p (pv 0)) (pe_bltn (by rfl) T.z_tuple bt_tuple rfl) bt_isinstance))) (tw_or (td_cmp (op_neD hu) d_ne (od_e (ed_blt call_lenAll n_len (by rfl) T.z_len bt_len (os_cons (od_p (pv 0)) os_nil))) (od_e (ed_const pe_int (fun _ => .int _))) (by rfl)) (tw_or (td_not (td_val (ed_call rfl (g_is_text T) (hr.mono (by decide)) (by rfl) (os_cons (od_e (ed_ix ix_seq d_ix (od_p (pv 0)) (od_e (ed_const pe_int (fun _ => .int _))) (fun _ _ => rfl))) os_nil) rfl))) (tw_or1 (td_not (td_val (ed_call rfl (g_is_text T) (hr.mono (by decide)) (by rfl) (os_cons (od_e (ed_ix ix_seq d_ix (od_p (pv 0)) (od_e (ed_const pe_int (fun _ => .int _))) (fun _ _ => rfl))) os_nil) rfl)))))))) (sd_one (sd_ret (ed_const pe_bl (fun _ => .bl _)))) sd_nil) (sd_one (sd_ret (ed_chain op_lt d_ltI op_le d_leI (od_e (ed_blt call_lenAll n_len (by rfl) T.z_len bt_len (os_cons (od_e (ed_ix ix_seq d_ix (od_p (pv 0)) (od_e (ed_const pe_int (fun _ => .int _))) (fun _ _ => rfl))) os_nil))) (od_e (ed_blt call_lenAll n_len (by rfl) T.z_len bt_len (os_cons (od_e (ed_ix ix_seq d_ix (od_p (pv 0)) (od_e (ed_const pe_int (fun _ => .int _))) (fun _ _ => rfl))) os_nil))) (od_e (ed_gint T.n_MOST_LEFT))))))
theorem g_is_book (T : Facts κ mg) : Gbl κ pr w mg base "is_book" ["value"] 3 f_is_book := by
  obtain ⟨fa, fd, a1, a2, a3⟩ := T.d_is_book
  refine ⟨fa, fd, a1, a2.kp, a3, fn_ok (N := N_is_book) (m := m_is_book) a2 sc_is_book fun cdv A outer s H E hr => ?_⟩
  have nd := sc_is_book.nd
  have hu := hr.units
  exact (sd_cons (sd_if (PW.pt (tw_or (td_not (td_val (ed_isi rfl (by rfl) T.z_isinstance (od_p (pv 0)) (pe_bltn (by rfl) T.z_list bt_list rfl) bt_isinstance))) (tw_or (td_cmp op_gt d_gtI (od_e (ed_blt call_lenAll n_len (by rfl) T.z_len bt_len (os_cons (od_p (pv 0)) os_nil))) (od_e (ed_gint T.n_MOST_RULES)) (by rfl)) (tw_or1 (td_not (td_val (ed_blt (cr_all rfl) n_all (by rfl) T.z_all bt_all (os_cons (od_e (ed_of (eo_comp (own := [(("rule" : Str), 1)]) (pe_lc (own := [(("rule" : Str), 1)]) rfl nd (it_seq rfl (ed_var (pv 0))) (blkOk_by (N := N_is_book) (sc := defScope s_is_book) (by decide +kernel)) (fun _ _ _ _ _ => (gd_name (pg_name nd rfl (by first | exact Or.inl rfl | exact Or.inr rfl)))) (fun _ _ _ _ _ => tt_nil) (fun _ _ _ _ _ => (ed_call rfl (g_is_rule T) (hr.mono (by decide)) (by rfl) (os_cons (od_p (pv 1)) os_nil) rfl)))))) os_nil)))))))) (sd_one (sd_ret (ed_const pe_bl (fun _ => .bl _)))) sd_nil) (sd_one (sd_ret (ed_cmp (op_eqD hu) d_eq (od_e (ed_lenSet rfl (by rfl) T.z_len (by rfl) T.z_set (ed_of (eo_comp (own := [(("left" : Str), 2), (("_" : Str), 3)]) (pe_lc (own := [(("left" : Str), 2), (("_" : Str), 3)]) rfl nd (it_seq rfl (ed_var (pv 0))) (blkOk_by (N := N_is_book) (sc := defScope s_is_book) (by decide +kernel)) (fun _ _ _ _ _ => (gd_tup rfl rfl (gds_cons (gd_name (pg_name nd rfl (by first | exact Or.inl rfl | exact Or.inr rfl))) (gds_cons (gd_name (pg_name nd rfl (by first | exact Or.inl rfl | exact Or.inr rfl))) gds_nil)))) (fun _ _ _ _ _ => tt_nil) (fun _ _ _ _ _ => (ed_var (pv 2)))))))) (od_e (ed_blt call_lenAll n_len (by rfl) T.z_len bt_len (os_cons (od_p (pv 0)) os_nil))) (by rfl)))))
theorem g_law_steps (T : Facts κ mg) : Gbl κ pr w mg base "_law_steps" ["rules", "text"] 1 f_law_steps := by
  obtain ⟨fa, fd, a1, a2, a3⟩ := T.d_law_steps
  refine ⟨fa, fd, a1, a2.kp, a3, fn_ok (N := N_law_steps) (m := m_law_steps) a2 sc_law_steps fun cdv A outer s H E hr => ?_⟩
  have nd := sc_law_steps.nd
  have hu := hr.units
  exact (sd_cons (sd_own (ps_set (i := 2) nd rfl (by first | exact Or.inl rfl | exact Or.inr rfl) (eo_lst os_nil) (by rfl))) (sd_cons (sd_for PassesOwn.never rfl (it_range1 (by rfl) T.z_range (os_cons (od_e (ed_blt call_lenAll n_len (by rfl) T.z_len bt_len (os_cons (od_p (pv 1)) os_nil))) os_nil)) (gd_name (pg_name nd rfl (by first | exact Or.inl rfl | exact Or.inr rfl))) (sd_one (sd_for PassesOwn.never rfl (it_range1 (by rfl) T.z_range (os_cons (od_e (ed_blt call_lenAll n_len (by rfl) T.z_len bt_len (os_cons (od_p (pv 0)) os_nil))) os_nil)) (gd_name (pg_name nd rfl (by first | exact Or.inl rfl | exact Or.inr rfl))) (sd_one (sd_if (td_cmp (op_eqD hu) d_eq (od_e (ed_sl sl_any d_slA (od_p (pv 1)) (pr_e (ed_var (pv 3))) (pr_e (ed_bin op_addAll d_add (od_p (pv 3)) (od_e (ed_blt call_lenAll n_len (by rfl) T.z_len bt_len (os_cons (od_e (ed_ix ix_seq d_ix (od_e (ed_ix ix_seq d_ix (od_p (pv 0)) (od_p (pv 4)) (fun _ _ => rfl))) (od_e (ed_const pe_int (fun _ => .int _))) (fun _ _ => rfl))) os_nil))))))) (od_e (ed_ix ix_seq d_ix (od_e (ed_ix ix_seq d_ix (od_p (pv 0)) (od_p (pv 4)) (fun _ _ => rfl))) (od_e (ed_const pe_int (fun _ => .int _))) (fun _ _ => rfl))) (by rfl)) (sd_one (sd_expr (ed_mutL rfl m_append PySem.F.slot_list_append PySem.F.type_list_append mt_append (pv 2) (os_cons (od_e (ed_tup (os_cons (od_e (ed_var (pv 3))) (os_cons (od_e (ed_var (pv 4))) os_nil)))) os_nil)))) sd_nil))))) (sd_one (sd_ret (ed_var (pv 2))))))
theorem g_steps (T : Facts κ mg) : Gbl κ pr w mg base "steps" ["rules", "text"] 1 f_steps := by
  obtain ⟨fa, fd, a1, a2, a3⟩ := T.d_steps
  refine ⟨fa, fd, a1, a2.kp, a3, fn_ok (N := N_steps) (m := m_steps) a2 sc_steps fun cdv A outer s H E hr => ?_⟩
  have nd := sc_steps.nd
  have hu := hr.units
  exact (sd_cons (sd_own (ps_set (i := 2) nd rfl (by first | exact Or.inl rfl | exact Or.inr rfl) (eo_lst os_nil) (by rfl))) (sd_cons (sd_for PassesOwn.never rfl (it_range1 (by rfl) T.z_range (os_cons (od_e (ed_blt call_lenAll n_len (by rfl) T.z_len bt_len (os_cons (od_p (pv 1)) os_nil))) os_nil)) (gd_name (pg_name nd rfl (by first | exact Or.inl rfl | exact Or.inr rfl))) (sd_one (sd_for PassesOwn.never rfl (it_enum rfl (by rfl) T.z_enumerate (ed_var (pv 0))) (gd_tup rfl rfl (gds_cons (gd_name (pg_name nd rfl (by first | exact Or.inl rfl | exact Or.inr rfl))) (gds_cons (gd_tup rfl rfl (gds_cons (gd_name (pg_name nd rfl (by first | exact Or.inl rfl | exact Or.inr rfl))) (gds_cons (gd_name (pg_name nd rfl (by first | exact Or.inl rfl | exact Or.inr rfl))) gds_nil))) gds_nil))) (sd_one (sd_if (td_cmp (op_eqD hu) d_eq (od_e (ed_sl sl_any d_slA (od_p (pv 1)) (pr_e (ed_var (pv 3))) (pr_e (ed_bin op_addAll d_add (od_p (pv 3)) (od_e (ed_blt call_lenAll n_len (by rfl) T.z_len bt_len (os_cons (od_p (pv 5)) os_nil))))))) (od_p (pv 5)) (by rfl)) (sd_one (sd_expr (ed_mutL rfl m_append PySem.F.slot_list_append PySem.F.type_list_append mt_append (pv 2) (os_cons (od_e (ed_tup (os_cons (od_e (ed_var (pv 3))) (os_cons (od_e (ed_var (pv 4))) os_nil)))) os_nil)))) sd_nil))))) (sd_one (sd_ret (ed_var (pv 2))))))
theorem g_stepped (T : Facts κ mg) : Gbl κ pr w mg base "stepped" ["rules", "text", "step"] 1 f_stepped := by
  obtain ⟨fa, fd, a1, a2, a3⟩ := T.d_stepped
  refine ⟨fa, fd, a1, a2.kp, a3, fn_ok (N := N_stepped) (m := m_stepped) a2 sc_stepped fun cdv A outer s H E hr => ?_⟩
  have nd := sc_stepped.nd
  have hu := hr.units
  exact (sd_cons (sd_unp (ed_var (pv 2)) (gd_tup rfl rfl (gds_cons (gd_name (pg_name nd rfl (by first | exact Or.inl rfl | exact Or.inr rfl))) (gds_cons (gd_name (pg_name nd rfl (by first | exact Or.inl rfl | exact Or.inr rfl))) gds_nil)))) (sd_cons (sd_unp (ed_ix ix_seq d_ix (od_p (pv 0)) (od_p (pv 4)) (fun _ _ => rfl)) (gd_tup rfl rfl (gds_cons (gd_name (pg_name nd rfl (by first | exact Or.inl rfl | exact Or.inr rfl))) (gds_cons (gd_name (pg_name nd rfl (by first | exact Or.inl rfl | exact Or.inr rfl))) gds_nil)))) (sd_one (sd_ret (ed_bin op_addAll d_add (od_e (ed_bin op_addAll d_add (od_e (ed_sl sl_any d_slA (od_p (pv 1)) pr_no (pr_e (ed_var (pv 3))))) (od_p (pv 6)))) (od_e (ed_sl sl_any d_slA (od_p (pv 1)) (pr_e (ed_bin op_addAll d_add (od_p (pv 3)) (od_e (ed_blt call_lenAll n_len (by rfl) T.z_len bt_len (os_cons (od_p (pv 5)) os_nil))))) pr_no)))))))
theorem g_rows_to (T : Facts κ mg) : Gbl κ pr w mg base "rows_to" ["rules", "text"] 2 f_rows_to := by
  obtain ⟨fa, fd, a1, a2, a3⟩ := T.d_rows_to
  refine ⟨fa, fd, a1, a2.kp, a3, fn_ok (N := N_rows_to) (m := m_rows_to) a2 sc_rows_to fun cdv A outer s H E hr => ?_⟩
  have nd := sc_rows_to.nd
  have hu := hr.units
  exact (sd_cons (sd_own (ps_set (i := 2) nd rfl (by first | exact Or.inl rfl | exact Or.inr rfl) (eo_dct1 (ed_var (pv 1)) (ed_const pe_non (fun _ => .non))) (by rfl))) (sd_cons (sd_own (ps_set (i := 3) nd rfl (by first | exact Or.inl rfl | exact Or.inr rfl) (eo_lst (os_cons (od_e (ed_var (pv 1))) os_nil)) (by rfl))) (sd_cons (sd_set (ps_set (i := 4) nd rfl (by first | exact Or.inl rfl | exact Or.inr rfl) (ed_const pe_int (fun _ => .int _)) (by rfl))) (sd_cons (sd_while PassesOwn.never (td_cmp op_lt d_ltI (od_p (pv 4)) (od_e (ed_blt call_lenAll n_len (by rfl) T.z_len bt_len (os_cons (od_p (pv 3)) os_nil))) (by rfl)) (sd_cons (sd_set (ps_set (i := 5) nd rfl (by first | exact Or.inl rfl | exact Or.inr rfl) (ed_ix ix_seq d_ix (od_p (pv 3)) (od_p (pv 4)) (fun _ _ => rfl)) (by rfl))) (sd_cons (sd_set (ps_set (i := 4) nd rfl (by first | exact Or.inl rfl | exact Or.inr rfl) (ed_bin op_addAll d_add (od_p (pv 4)) (od_e (ed_const pe_int (fun _ => .int _)))) (by rfl))) (sd_one (sd_for PassesOwn.never rfl (it_seq rfl (ed_call rfl (g_steps T) (hr.mono (by decide)) (by rfl) (os_cons (od_p (pv 0)) (os_cons (od_p (pv 5)) os_nil)) rfl)) (gd_name (pg_name nd rfl (by first | exact Or.inl rfl | exact Or.inr rfl))) (sd_cons (sd_set (ps_set (i := 7) nd rfl (by first | exact Or.inl rfl | exact Or.inr rfl) (ed_call rfl (g_stepped T) (hr.mono (by decide)) (by rfl) (os_cons (od_p (pv 0)) (os_cons (od_p (pv 5)) (os_cons (od_p (pv 6)) os_nil))) rfl) (by rfl))) (sd_one (sd_if (td_dnotin (room1 hr) (od_p (pv 7)) (od_p (pv 2))) (sd_cons (sd_setM (room1 hr) (pv 2) (ed_var (pv 7)) (ed_tup (os_cons (od_e (ed_var (pv 5))) (os_cons (od_e (ed_var (pv 6))) os_nil)))) (sd_one (sd_expr (ed_mutL rfl m_append PySem.F.slot_list_append PySem.F.type_list_append mt_append (pv 3) (os_cons (od_e (ed_var (pv 7))) os_nil))))) sd_nil)))))))) (sd_one (sd_ret (ed_var (pv 2))))))))
theorem g_ends (T : Facts κ mg) : Gbl κ pr w mg base "ends" ["rules", "text"] 3 f_ends := by
  obtain ⟨fa, fd, a1, a2, a3⟩ := T.d_ends
  refine ⟨fa, fd, a1, a2.kp, a3, fn_ok (N := N_ends) (m := m_ends) a2 sc_ends fun cdv A outer s H E hr => ?_⟩
  have nd := sc_ends.nd
  have hu := hr.units
  exact (sd_one (sd_ret (ed_of (eo_blt (cr_sortedD hu) o_sorted (by rfl) T.z_sorted bt_sorted (os_cons (od_e (ed_of (eo_comp (own := [(("other" : Str), 2)]) (pe_lc (own := [(("other" : Str), 2)]) rfl nd (it_keysD rfl (ed_call rfl (g_rows_to T) (hr.mono (by decide)) (by rfl) (os_cons (od_p (pv 0)) (os_cons (od_p (pv 1)) os_nil)) rfl)) (blkOk_by (N := N_ends) (sc := defScope s_ends) (by decide +kernel)) (fun _ _ _ _ _ => (gd_name (pg_name nd rfl (by first | exact Or.inl rfl | exact Or.inr rfl)))) (fun _ _ _ _ _ => (tt_one (td_not (td_tru rfl (od_e (ed_call rfl (g_steps T) (hr.mono (by decide)) (by rfl) (os_cons (od_p (pv 0)) (os_cons (od_p (pv 2)) os_nil)) rfl)))))) (fun _ _ _ _ _ => (ed_var (pv 2))))))) os_nil)))))
theorem g_first_step (T : Facts κ mg) : Gbl κ pr w mg base "first_step" ["rules", "text"] 2 f_first_step := by
  obtain ⟨fa, fd, a1, a2, a3⟩ := T.d_first_step
  refine ⟨fa, fd, a1, a2.kp, a3, fn_ok (N := N_first_step) (m := m_first_step) a2 sc_first_step fun cdv A outer s H E hr => ?_⟩
  have nd := sc_first_step.nd
  have hu := hr.units
  exact (sd_cons (sd_set (asg_data (comp_asg (ps_setLc (i := 2) (own := [(("place" : Str), 3), (("number" : Str), 5)]) rfl nd rfl rfl (sw_true rfl rfl rfl (by decide +kernel)) (it_seq rfl (ed_call rfl (g_steps T) (hr.mono (by decide)) (by rfl) (os_cons (od_p (pv 0)) (os_cons (od_p (pv 1)) os_nil)) rfl)) (blkOk_by (N := N_first_step) (sc := defScope s_first_step) (by decide +kernel)) (fun _ _ _ _ _ => (gd_tup rfl rfl (gds_cons (gd_name (pg_name nd rfl (by first | exact Or.inl rfl | exact Or.inr rfl))) (gds_cons (gd_name (pg_name nd rfl (by first | exact Or.inl rfl | exact Or.inr rfl))) gds_nil)))) (fun _ _ _ _ _ => tt_nil) (fun _ _ _ _ _ => (ed_tup (os_cons (od_e (ed_var (pv 3))) (os_cons (od_e (ed_un un_neg d_neg (od_e (ed_blt call_lenAll n_len (by rfl) T.z_len bt_len (os_cons (od_e (ed_ix ix_seq d_ix (od_e (ed_ix ix_seq d_ix (od_p (pv 0)) (od_p (pv 5)) (fun _ _ => rfl))) (od_e (ed_const pe_int (fun _ => .int _))) (fun _ _ => rfl))) os_nil))))) (os_cons (od_e (ed_var (pv 5))) os_nil))))))))) (sd_cons (sd_if (td_not (td_tru rfl (od_p (pv 2)))) (sd_one (sd_ret (ed_const pe_non (fun _ => .non)))) sd_nil) (sd_cons (sd_unp (ed_blt (call_minA rfl hu) n_min (by rfl) T.z_min bt_min (os_cons (od_p (pv 2)) os_nil)) (gd_tup rfl rfl (gds_cons (gd_name (pg_name nd rfl (by first | exact Or.inl rfl | exact Or.inr rfl))) (gds_cons (gd_name (pg_name nd rfl (by first | exact Or.inl rfl | exact Or.inr rfl))) (gds_cons (gd_name (pg_name nd rfl (by first | exact Or.inl rfl | exact Or.inr rfl))) gds_nil))))) (sd_one (sd_ret (ed_tup (os_cons (od_e (ed_var (pv 3))) (os_cons (od_e (ed_var (pv 5))) os_nil))))))))
theorem g_set_text (T : Facts κ mg) : Gbl κ pr w mg base "set_text" ["rules", "text"] 3 f_set_text := by
  obtain ⟨fa, fd, a1, a2, a3⟩ := T.d_set_text
  refine ⟨fa, fd, a1, a2.kp, a3, fn_ok (N := N_set_text) (m := m_set_text) a2 sc_set_text fun cdv A outer s H E hr => ?_⟩
  have nd := sc_set_text.nd
  have hu := hr.units
  exact (sd_cons (sd_own (ps_set (i := 2) nd rfl (by first | exact Or.inl rfl | exact Or.inr rfl) (eo_lst os_nil) (by rfl))) (sd_cons (sd_set (ps_set (i := 3) nd rfl (by first | exact Or.inl rfl | exact Or.inr rfl) (ed_call rfl (g_first_step T) (hr.mono (by decide)) (by rfl) (os_cons (od_p (pv 0)) (os_cons (od_p (pv 1)) os_nil)) rfl) (by rfl))) (sd_cons (sd_while PassesOwn.never (td_cmp op_isNotK0 d_isNot (od_p (pv 3)) (od_e (ed_const pe_non (fun _ => .non))) (by rfl)) (sd_cons (sd_expr (ed_mutL rfl m_append PySem.F.slot_list_append PySem.F.type_list_append mt_append (pv 2) (os_cons (od_e (ed_var (pv 3))) os_nil))) (sd_cons (sd_set (ps_set (i := 1) nd rfl (by first | exact Or.inl rfl | exact Or.inr rfl) (ed_call rfl (g_stepped T) (hr.mono (by decide)) (by rfl) (os_cons (od_p (pv 0)) (os_cons (od_p (pv 1)) (os_cons (od_p (pv 3)) os_nil))) rfl) (by rfl))) (sd_one (sd_set (ps_set (i := 3) nd rfl (by first | exact Or.inl rfl | exact Or.inr rfl) (ed_call rfl (g_first_step T) (hr.mono (by decide)) (by rfl) (os_cons (od_p (pv 0)) (os_cons (od_p (pv 1)) os_nil)) rfl) (by rfl))))))) (sd_one (sd_ret (ed_tup (os_cons (od_e (ed_var (pv 1))) (os_cons (od_e (ed_var (pv 2))) os_nil))))))))
theorem g_law_copied (T : Facts κ mg) : ∀ n : Nat, Gbl κ pr w mg base "_law_copied" ["value"] (1 + n) (f_law_copied n)
  | 0 => by
    obtain ⟨fa, fd, a1, a2, a3⟩ := T.d_law_copied
    exact ⟨fa, fd, a1, a2.kp, a3, fn_none⟩
  | n + 1 => by
    have GS := g_law_copied T n
    obtain ⟨fa, fd, a1, a2, a3⟩ := T.d_law_copied
    refine ⟨fa, fd, a1, a2.kp, a3, fn_ok (N := N_law_copied) (m := m_law_copied (f_law_copied n)) a2 sc_law_copied fun cdv A outer s H E hr => ?_⟩
    have nd := sc_law_copied.nd
    have hu := hr.units
    replace hr : Room (1 + n) _ := hr
    exact (sd_cons (sd_if (td_val (ed_isi rfl (by rfl) T.z_isinstance (od_p (pv 0)) (pe_bltn (by rfl) T.z_dict bt_dict rfl) bt_isinstance)) (sd_cons (sd_own (ps_set (i := 1) nd rfl (by first | exact Or.inl rfl | exact Or.inr rfl) eo_dct0 (by rfl))) (sd_cons (sd_for PassesOwn.never rfl (it_seq rfl (ed_var (pv 0))) (gd_name (pg_name nd rfl (by first | exact Or.inl rfl | exact Or.inr rfl))) (sd_one (sd_setM (room1 hr) (pv 1) (ed_var (pv 2)) (ed_call rfl GS (hr.mono (by omega)) (by rfl) (os_cons (od_e (ed_ix ix_seq d_ix (od_p (pv 0)) (od_p (pv 2)) (fun _ _ => rfl))) os_nil) rfl)))) (sd_one (sd_ret (ed_var (pv 1)))))) sd_nil) (sd_cons (sd_if (td_val (ed_isi rfl (by rfl) T.z_isinstance (od_p (pv 0)) (pe_bltn (by rfl) T.z_list bt_list rfl) bt_isinstance)) (sd_one (sd_ret (ed_of (eo_comp (own := [(("one" : Str), 3)]) (pe_lc (own := [(("one" : Str), 3)]) rfl nd (it_seq rfl (ed_var (pv 0))) (blkOk_by (N := N_law_copied) (sc := defScope s_law_copied) (by decide +kernel)) (fun _ _ _ _ _ => (gd_name (pg_name nd rfl (by first | exact Or.inl rfl | exact Or.inr rfl)))) (fun _ _ _ _ _ => tt_nil) (fun _ _ _ _ _ => (ed_call rfl GS (hr.mono (by omega)) (by rfl) (os_cons (od_p (pv 3)) os_nil) rfl))))))) sd_nil) (sd_cons (sd_if (td_val (ed_isi rfl (by rfl) T.z_isinstance (od_p (pv 0)) (pe_bltn (by rfl) T.z_tuple bt_tuple rfl) bt_isinstance)) (sd_one (sd_ret (ed_ty call_tupleB n_tuple (by rfl) T.z_tuple bt_tuple (os_cons (od_e (ed_of (eo_comp (own := [(("one" : Str), 3)]) (pe_lc (own := [(("one" : Str), 3)]) rfl nd (it_seq rfl (ed_var (pv 0))) (blkOk_by (N := N_law_copied) (sc := defScope s_law_copied) (by decide +kernel)) (fun _ _ _ _ _ => (gd_name (pg_name nd rfl (by first | exact Or.inl rfl | exact Or.inr rfl)))) (fun _ _ _ _ _ => tt_nil) (fun _ _ _ _ _ => (ed_call rfl GS (hr.mono (by omega)) (by rfl) (os_cons (od_p (pv 3)) os_nil) rfl)))))) os_nil)))) sd_nil) (sd_one (sd_ret (ed_var (pv 0)))))))
theorem g_law_stepped (T : Facts κ mg) : Gbl κ pr w mg base "_law_stepped" ["rules", "text", "step"] 1 f_law_stepped := by
  obtain ⟨fa, fd, a1, a2, a3⟩ := T.d_law_stepped
  refine ⟨fa, fd, a1, a2.kp, a3, fn_ok (N := N_law_stepped) (m := m_law_stepped) a2 sc_law_stepped fun cdv A outer s H E hr => ?_⟩
  have nd := sc_law_stepped.nd
  have hu := hr.units
  exact (sd_cons (sd_unp (ed_ix ix_seq d_ix (od_p (pv 0)) (od_e (ed_ix ix_seq d_ix (od_p (pv 2)) (od_e (ed_const pe_int (fun _ => .int _))) (fun _ _ => rfl))) (fun _ _ => rfl)) (gd_tup rfl rfl (gds_cons (gd_name (pg_name nd rfl (by first | exact Or.inl rfl | exact Or.inr rfl))) (gds_cons (gd_name (pg_name nd rfl (by first | exact Or.inl rfl | exact Or.inr rfl))) gds_nil)))) (sd_one (sd_ret (ed_bin op_addAll d_add (od_e (ed_bin op_addAll d_add (od_e (ed_sl sl_any d_slA (od_p (pv 1)) pr_no (pr_e (ed_ix ix_seq d_ix (od_p (pv 2)) (od_e (ed_const pe_int (fun _ => .int _))) (fun _ _ => rfl))))) (od_p (pv 4)))) (od_e (ed_sl sl_any d_slA (od_p (pv 1)) (pr_e (ed_bin op_addAll d_add (od_e (ed_ix ix_seq d_ix (od_p (pv 2)) (od_e (ed_const pe_int (fun _ => .int _))) (fun _ _ => rfl))) (od_e (ed_blt call_lenAll n_len (by rfl) T.z_len bt_len (os_cons (od_p (pv 3)) os_nil))))) pr_no))))))
theorem g_law_same (T : Facts κ mg) : ∀ n : Nat, Gbl κ pr w mg base "_law_same" ["answer", "due"] (1 + n) (f_law_same n)
  | 0 => by
    obtain ⟨fa, fd, a1, a2, a3⟩ := T.d_law_same
    exact ⟨fa, fd, a1, a2.kp, a3, fn_none⟩
  | n + 1 => by
    have GS := g_law_same T n
    obtain ⟨fa, fd, a1, a2, a3⟩ := T.d_law_same
    refine ⟨fa, fd, a1, a2.kp, a3, fn_ok (N := N_law_same) (m := m_law_same (f_law_same n)) a2 sc_law_same fun cdv A outer s H E hr => ?_⟩
    have nd := sc_law_same.nd
    have hu := hr.units
    replace hr : Room (1 + n) _ := hr
    exact (sd_cons (sd_if (td_val (ed_isi rfl (by rfl) T.z_isinstance (od_p (pv 1)) (pe_bltn (by rfl) T.z_dict bt_dict rfl) bt_isinstance)) (sd_cons (sd_if (PW.pt (tw_or (td_not (td_val (ed_isi rfl (by rfl) T.z_isinstance (od_p (pv 0)) (pe_bltn (by rfl) T.z_dict bt_dict rfl) bt_isinstance))) (tw_or1 (td_cmp (op_neD hu) d_ne (od_e (ed_blt call_lenAll n_len (by rfl) T.z_len bt_len (os_cons (od_p (pv 0)) os_nil))) (od_e (ed_blt call_lenAll n_len (by rfl) T.z_len bt_len (os_cons (od_p (pv 1)) os_nil))) (by rfl))))) (sd_one (sd_ret (ed_const pe_bl (fun _ => .bl _)))) sd_nil) (sd_one sd_never)) sd_nil) (sd_cons (sd_if (PW.pt (tw_or (td_val (ed_isi rfl (by rfl) T.z_isinstance (od_p (pv 1)) (pe_bltn (by rfl) T.z_list bt_list rfl) bt_isinstance)) (tw_or1 (td_val (ed_isi rfl (by rfl) T.z_isinstance (od_p (pv 1)) (pe_bltn (by rfl) T.z_tuple bt_tuple rfl) bt_isinstance))))) (sd_cons (sd_if (PW.pt (tw_or (td_cmp (op_neD hu) d_ne (od_e (ed_isi rfl (by rfl) T.z_isinstance (od_p (pv 1)) (pe_bltn (by rfl) T.z_list bt_list rfl) bt_isinstance)) (od_e (ed_isi rfl (by rfl) T.z_isinstance (od_p (pv 0)) (pe_bltn (by rfl) T.z_list bt_list rfl) bt_isinstance)) (by rfl)) (tw_or1 (td_cmp (op_neD hu) d_ne (od_e (ed_isi rfl (by rfl) T.z_isinstance (od_p (pv 1)) (pe_bltn (by rfl) T.z_tuple bt_tuple rfl) bt_isinstance)) (od_e (ed_isi rfl (by rfl) T.z_isinstance (od_p (pv 0)) (pe_bltn (by rfl) T.z_tuple bt_tuple rfl) bt_isinstance)) (by rfl))))) (sd_one (sd_ret (ed_const pe_bl (fun _ => .bl _)))) sd_nil) (sd_one (sd_ret (ed_and (ed_cmp (op_eqD hu) d_eq (od_e (ed_blt call_lenAll n_len (by rfl) T.z_len bt_len (os_cons (od_p (pv 0)) os_nil))) (od_e (ed_blt call_lenAll n_len (by rfl) T.z_len bt_len (os_cons (od_p (pv 1)) os_nil))) (by rfl)) (ed_one (ed_blt (cr_all rfl) n_all (by rfl) T.z_all bt_all (os_cons (od_e (ed_of (eo_comp (own := [(("k" : Str), 3)]) (pe_lc (own := [(("k" : Str), 3)]) rfl nd (it_range1 (by rfl) T.z_range (os_cons (od_e (ed_blt call_lenAll n_len (by rfl) T.z_len bt_len (os_cons (od_p (pv 1)) os_nil))) os_nil)) (blkOk_by (N := N_law_same) (sc := defScope s_law_same) (by decide +kernel)) (fun _ _ _ _ _ => (gd_name (pg_name nd rfl (by first | exact Or.inl rfl | exact Or.inr rfl)))) (fun _ _ _ _ _ => tt_nil) (fun _ _ _ _ _ => (ed_call rfl GS (hr.mono (by omega)) (by rfl) (os_cons (od_e (ed_ix ix_seq d_ix (od_p (pv 0)) (od_p (pv 3)) (fun _ _ => rfl))) (os_cons (od_e (ed_ix ix_seq d_ix (od_p (pv 1)) (od_p (pv 3)) (fun _ _ => rfl))) os_nil)) rfl)))))) os_nil))))))) sd_nil) (sd_cons (sd_if (td_val (ed_isi rfl (by rfl) T.z_isinstance (od_p (pv 1)) (pe_bltn (by rfl) T.z_str bt_str rfl) bt_isinstance)) (sd_one (sd_ret (ed_and (ed_isi rfl (by rfl) T.z_isinstance (od_p (pv 0)) (pe_bltn (by rfl) T.z_str bt_str rfl) bt_isinstance) (ed_one (ed_cmp (op_eqD hu) d_eq (od_p (pv 0)) (od_p (pv 1)) (by rfl)))))) sd_nil) (sd_cons (sd_if (PW.pt (tw_or (td_cmp op_isK0 d_is (od_p (pv 1)) (od_e (ed_const pe_non (fun _ => .non))) (by rfl)) (tw_or (td_cmp op_isK0 d_is (od_p (pv 1)) (od_e (ed_const pe_bl (fun _ => .bl _))) (by rfl)) (tw_or1 (td_cmp op_isK0 d_is (od_p (pv 1)) (od_e (ed_const pe_bl (fun _ => .bl _))) (by rfl)))))) (sd_one (sd_ret (ed_or (ed_and (ed_cmp op_isK0 d_is (od_p (pv 1)) (od_e (ed_const pe_non (fun _ => .non))) (by rfl)) (ed_one (ed_cmp op_isK0 d_is (od_p (pv 0)) (od_e (ed_const pe_non (fun _ => .non))) (by rfl)))) (ed_or (ed_and (ed_cmp op_isK0 d_is (od_p (pv 1)) (od_e (ed_const pe_bl (fun _ => .bl _))) (by rfl)) (ed_one (ed_cmp op_isK0 d_is (od_p (pv 0)) (od_e (ed_const pe_bl (fun _ => .bl _))) (by rfl)))) (ed_one (ed_and (ed_cmp op_isK0 d_is (od_p (pv 1)) (od_e (ed_const pe_bl (fun _ => .bl _))) (by rfl)) (ed_one (ed_cmp op_isK0 d_is (od_p (pv 0)) (od_e (ed_const pe_bl (fun _ => .bl _))) (by rfl))))))))) sd_nil) (sd_one (sd_ret (ed_and (ed_isi rfl (by rfl) T.z_isinstance (od_p (pv 0)) (pe_bltn (by rfl) T.z_int bt_int rfl) bt_isinstance) (ed_and (ed_notv (ed_isi rfl (by rfl) T.z_isinstance (od_p (pv 0)) (pe_bltn (by rfl) T.z_bool bt_bool rfl) bt_isinstance)) (ed_one (ed_cmp (op_eqD hu) d_eq (od_p (pv 0)) (od_p (pv 1)) (by rfl)))))))))))
theorem g_law_bent (T : Facts κ mg) : Gbl κ pr w mg base "_law_bent" ["pool", "row"] 5 f_law_bent := by
  obtain ⟨fa, fd, a1, a2, a3⟩ := T.d_law_bent
  refine ⟨fa, fd, a1, a2.kp, a3, fn_ok (N := N_law_bent) (m := m_law_bent) a2 sc_law_bent fun cdv A outer s H E hr => ?_⟩
  have nd := sc_law_bent.nd
  have hu := hr.units
  exact (sd_cons (sd_set (ps_set (i := 2) nd rfl (by first | exact Or.inl rfl | exact Or.inr rfl) (ed_of (eo_ty call_list_of o_list (by rfl) T.z_list bt_list (os_cons (od_p (pv 1)) os_nil))) (by rfl))) (sd_cons (sd_set (ps_set (i := 3) nd rfl (by first | exact Or.inl rfl | exact Or.inr rfl) (ed_call rfl (g_law_draw T) (hr.mono (by decide)) (by rfl) (os_cons (od_p (pv 0)) (os_cons (od_e (ed_const pe_int (fun _ => .int _))) os_nil)) rfl) (by rfl))) (sd_cons (sd_if (PW.pt (tw_or (td_cmp (op_eqD hu) d_eq (od_p (pv 2)) (od_e (ed_of (eo_lst os_nil))) (by rfl)) (tw_or1 (td_cmp (op_eqD hu) d_eq (od_p (pv 3)) (od_e (ed_const pe_int (fun _ => .int _))) (by rfl))))) (sd_one (sd_ret (ed_of (eo_bin op_catR o_cat (od_p (pv 2)) (od_e (ed_of (eo_lst (os_cons (od_e (ed_tup (os_cons (od_e (ed_call rfl (g_law_draw T) (hr.mono (by decide)) (by rfl) (os_cons (od_p (pv 0)) (os_cons (od_e (ed_const pe_int (fun _ => .int _))) os_nil)) rfl)) (os_cons (od_e (ed_call rfl (g_law_draw T) (hr.mono (by decide)) (by rfl) (os_cons (od_p (pv 0)) (os_cons (od_e (ed_const pe_int (fun _ => .int _))) os_nil)) rfl)) os_nil)))) os_nil)))))))) sd_nil) (sd_cons (sd_set (ps_set (i := 4) nd rfl (by first | exact Or.inl rfl | exact Or.inr rfl) (ed_call rfl (g_law_draw T) (hr.mono (by decide)) (by rfl) (os_cons (od_p (pv 0)) (os_cons (od_e (ed_blt call_lenAll n_len (by rfl) T.z_len bt_len (os_cons (od_p (pv 2)) os_nil))) os_nil)) rfl) (by rfl))) (sd_cons (sd_if (td_cmp (op_eqD hu) d_eq (od_p (pv 3)) (od_e (ed_const pe_int (fun _ => .int _))) (by rfl)) (sd_one (sd_ret (ed_bin op_addAll d_add (od_e (ed_sl sl_any d_slA (od_p (pv 2)) pr_no (pr_e (ed_var (pv 4))))) (od_e (ed_sl sl_any d_slA (od_p (pv 2)) (pr_e (ed_bin op_addAll d_add (od_p (pv 4)) (od_e (ed_const pe_int (fun _ => .int _))))) pr_no))))) sd_nil) (sd_cons (sd_if (td_cmp (op_eqD hu) d_eq (od_p (pv 3)) (od_e (ed_const pe_int (fun _ => .int _))) (by rfl)) (sd_one (sd_ret (ed_of (eo_rev rfl (ed_var (pv 2)))))) sd_nil) (sd_one (sd_ret (ed_of (eo_bin op_catR o_cat (od_e (ed_of (eo_bin op_catR o_cat (od_e (ed_sl sl_any d_slA (od_p (pv 2)) pr_no (pr_e (ed_var (pv 4))))) (od_e (ed_of (eo_lst (os_cons (od_e (ed_tup (os_cons (od_e (ed_bin op_addAll d_add (od_e (ed_ix ix_seq d_ix (od_e (ed_ix ix_seq d_ix (od_p (pv 2)) (od_p (pv 4)) (fun _ _ => rfl))) (od_e (ed_const pe_int (fun _ => .int _))) (fun _ _ => rfl))) (od_e (ed_call rfl (g_law_pick T) (hr.mono (by decide)) (by rfl) (os_cons (od_p (pv 0)) (os_cons (od_e (ed_of (eo_lst (os_cons (od_e (ed_const pe_int (fun _ => .int _))) (os_cons (od_e (ed_un un_neg d_neg (od_e (ed_const pe_int (fun _ => .int _))))) (os_cons (od_e (ed_const pe_int (fun _ => .int _))) os_nil)))))) os_nil)) rfl)))) (os_cons (od_e (ed_call rfl (g_law_draw T) (hr.mono (by decide)) (by rfl) (os_cons (od_p (pv 0)) (os_cons (od_e (ed_const pe_int (fun _ => .int _))) os_nil)) rfl)) os_nil)))) os_nil))))))) (od_e (ed_sl sl_any d_slA (od_p (pv 2)) (pr_e (ed_bin op_addAll d_add (od_p (pv 4)) (od_e (ed_const pe_int (fun _ => .int _))))) pr_no))))))))))))
theorem g_law_led (T : Facts κ mg) : Gbl κ pr w mg base "_law_led" ["rules", "text", "row"] 2 f_law_led := by
  obtain ⟨fa, fd, a1, a2, a3⟩ := T.d_law_led
  refine ⟨fa, fd, a1, a2.kp, a3, fn_ok (N := N_law_led) (m := m_law_led) a2 sc_law_led fun cdv A outer s H E hr => ?_⟩
  have nd := sc_law_led.nd
  have hu := hr.units
  exact (sd_cons (sd_for PassesOwn.never rfl (it_seq rfl (ed_var (pv 2))) (gd_name (pg_name nd rfl (by first | exact Or.inl rfl | exact Or.inr rfl))) (sd_cons (sd_if (td_cmp (op_notInA (room65 hr)) d_notIn (od_p (pv 3)) (od_e (ed_call rfl (g_law_steps T) (hr.mono (by decide)) (by rfl) (os_cons (od_p (pv 0)) (os_cons (od_p (pv 1)) os_nil)) rfl)) (by rfl)) (sd_one (sd_ret (ed_const pe_non (fun _ => .non)))) sd_nil) (sd_one (sd_set (ps_set (i := 1) nd rfl (by first | exact Or.inl rfl | exact Or.inr rfl) (ed_call rfl (g_law_stepped T) (hr.mono (by decide)) (by rfl) (os_cons (od_p (pv 0)) (os_cons (od_p (pv 1)) (os_cons (od_p (pv 3)) os_nil))) rfl) (by rfl)))))) (sd_one (sd_ret (ed_var (pv 1)))))
theorem g_led_by (T : Facts κ mg) : Gbl κ pr w mg base "led_by" ["rules", "text", "row"] 2 f_led_by := by
  obtain ⟨fa, fd, a1, a2, a3⟩ := T.d_led_by
  refine ⟨fa, fd, a1, a2.kp, a3, fn_ok (N := N_led_by) (m := m_led_by) a2 sc_led_by fun cdv A outer s H E hr => ?_⟩
  have nd := sc_led_by.nd
  have hu := hr.units
  exact (sd_cons (sd_for PassesOwn.never rfl (it_seq rfl (ed_var (pv 2))) (gd_name (pg_name nd rfl (by first | exact Or.inl rfl | exact Or.inr rfl))) (sd_cons (sd_if (td_cmp (op_notInA (room65 hr)) d_notIn (od_e (ed_ty call_tupleB n_tuple (by rfl) T.z_tuple bt_tuple (os_cons (od_p (pv 3)) os_nil))) (od_e (ed_call rfl (g_steps T) (hr.mono (by decide)) (by rfl) (os_cons (od_p (pv 0)) (os_cons (od_p (pv 1)) os_nil)) rfl)) (by rfl)) (sd_one (sd_ret (ed_const pe_non (fun _ => .non)))) sd_nil) (sd_one (sd_set (ps_set (i := 1) nd rfl (by first | exact Or.inl rfl | exact Or.inr rfl) (ed_call rfl (g_stepped T) (hr.mono (by decide)) (by rfl) (os_cons (od_p (pv 0)) (os_cons (od_p (pv 1)) (os_cons (od_p (pv 3)) os_nil))) rfl) (by rfl)))))) (sd_one (sd_ret (ed_var (pv 1)))))
theorem g_judge_row (T : Facts κ mg) : Gbl κ pr w mg base "judge_row" ["rules", "text", "row", "end"] 3 f_judge_row := by
  obtain ⟨fa, fd, a1, a2, a3⟩ := T.d_judge_row
  refine ⟨fa, fd, a1, a2.kp, a3, fn_ok (N := N_judge_row) (m := m_judge_row) a2 sc_judge_row fun cdv A outer s H E hr => ?_⟩
  have nd := sc_judge_row.nd
  have hu := hr.units
  exact (sd_one (sd_ret (ed_and (ed_cmp (op_eqD hu) d_eq (od_e (ed_call rfl (g_led_by T) (hr.mono (by decide)) (by rfl) (os_cons (od_p (pv 0)) (os_cons (od_p (pv 1)) (os_cons (od_p (pv 2)) os_nil))) rfl)) (od_p (pv 3)) (by rfl)) (ed_one (ed_notT rfl (od_e (ed_call rfl (g_steps T) (hr.mono (by decide)) (by rfl) (os_cons (od_p (pv 0)) (os_cons (od_p (pv 3)) os_nil)) rfl)))))))
theorem g_law_wrong (T : Facts κ mg) : Gbl κ pr w mg base "_law_wrong" [] 1 f_law_wrong := by
  obtain ⟨fa, fd, a1, a2, a3⟩ := T.d_law_wrong
  refine ⟨fa, fd, a1, a2.kp, a3, fn_ok (N := N_law_wrong) (m := m_law_wrong) a2 sc_law_wrong fun cdv A outer s H E hr => ?_⟩
  have nd := sc_law_wrong.nd
  have hu := hr.units
  exact (sd_cons (sd_set (ps_set (i := 0) nd rfl (by first | exact Or.inl rfl | exact Or.inr rfl) (ed_of (eo_lst (os_cons (od_e (ed_const pe_non (fun _ => .non))) (os_cons (od_e (ed_of eo_dct0)) (os_cons (od_e (ed_tup (os_cons (od_e (ed_tup (os_cons (od_e (ed_const pe_str (fun _ => .str _))) (os_cons (od_e (ed_const pe_str (fun _ => .str _))) os_nil)))) os_nil))) (os_cons (od_e (ed_of (eo_lst (os_cons (od_e (ed_tup (os_cons (od_e (ed_const pe_str (fun _ => .str _))) (os_cons (od_e (ed_const pe_str (fun _ => .str _))) os_nil)))) os_nil)))) (os_cons (od_e (ed_of (eo_lst (os_cons (od_e (ed_tup (os_cons (od_e (ed_const pe_str (fun _ => .str _))) (os_cons (od_e (ed_const pe_str (fun _ => .str _))) os_nil)))) os_nil)))) (os_cons (od_e (ed_of (eo_lst (os_cons (od_e (ed_tup (os_cons (od_e (ed_const pe_str (fun _ => .str _))) (os_cons (od_e (ed_const pe_str (fun _ => .str _))) os_nil)))) os_nil)))) (os_cons (od_e (ed_of (eo_lst (os_cons (od_e (ed_of (eo_lst (os_cons (od_e (ed_const pe_str (fun _ => .str _))) (os_cons (od_e (ed_const pe_str (fun _ => .str _))) os_nil))))) os_nil)))) (os_cons (od_e (ed_of (eo_lst (os_cons (od_e (ed_tup (os_cons (od_e (ed_const pe_str (fun _ => .str _))) os_nil))) os_nil)))) (os_cons (od_e (ed_of (eo_lst (os_cons (od_e (ed_tup (os_cons (od_e (ed_const pe_str (fun _ => .str _))) (os_cons (od_e (ed_const pe_str (fun _ => .str _))) (os_cons (od_e (ed_const pe_str (fun _ => .str _))) os_nil))))) os_nil)))) (os_cons (od_e (ed_of (eo_lst (os_cons (od_e (ed_tup (os_cons (od_e (ed_const pe_str (fun _ => .str _))) (os_cons (od_e (ed_const pe_str (fun _ => .str _))) os_nil)))) os_nil)))) os_nil)))))))))))) (by rfl))) (sd_one (sd_ret (ed_of (eo_bin op_catR o_cat (od_p (pv 0)) (od_e (ed_of (eo_lst (os_cons (od_e (ed_of (eo_lst (os_cons (od_e (ed_tup (os_cons (od_e (ed_const pe_str (fun _ => .str _))) (os_cons (od_e (ed_const pe_str (fun _ => .str _))) os_nil)))) (os_cons (od_e (ed_tup (os_cons (od_e (ed_const pe_str (fun _ => .str _))) (os_cons (od_e (ed_const pe_str (fun _ => .str _))) os_nil)))) os_nil))))) (os_cons (od_e (ed_of (eo_lst (os_cons (od_e (ed_tup (os_cons (od_e (ed_const pe_str (fun _ => .str _))) (os_cons (od_e (ed_const pe_int (fun _ => .int _))) os_nil)))) os_nil)))) (os_cons (od_e (ed_of (eo_lst (os_cons (od_e (ed_tup (os_cons (od_e (ed_const pe_int (fun _ => .int _))) (os_cons (od_e (ed_const pe_str (fun _ => .str _))) os_nil)))) os_nil)))) (os_cons (od_e (ed_of (eo_comp (own := [(("letter" : Str), 1)]) (pe_lc (own := [(("letter" : Str), 1)]) rfl nd (it_seq rfl (ed_const pe_str (fun _ => .str _))) (blkOk_by (N := N_law_wrong) (sc := defScope s_law_wrong) (by decide +kernel)) (fun _ _ _ _ _ => (gd_name (pg_name nd rfl (by first | exact Or.inl rfl | exact Or.inr rfl)))) (fun _ _ _ _ _ => tt_nil) (fun _ _ _ _ _ => (ed_tup (os_cons (od_e (ed_bin op_addAll d_add (od_e (ed_const pe_str (fun _ => .str _))) (od_p (pv 1)))) (os_cons (od_e (ed_const pe_str (fun _ => .str _))) os_nil)))))))) (os_cons (od_e (ed_of (eo_lst (os_cons (od_e (ed_const pe_str (fun _ => .str _))) os_nil)))) os_nil)))))))))))))
theorem g_law_spread (T : Facts κ mg) : Gbl κ pr w mg base "_law_spread" ["rules", "text"] 2 f_law_spread := by
  obtain ⟨fa, fd, a1, a2, a3⟩ := T.d_law_spread
  refine ⟨fa, fd, a1, a2.kp, a3, fn_ok (N := N_law_spread) (m := m_law_spread) a2 sc_law_spread fun cdv A outer s H E hr => ?_⟩
  have nd := sc_law_spread.nd
  have hu := hr.units
  exact (sd_cons (sd_own (ps_set (i := 2) nd rfl (by first | exact Or.inl rfl | exact Or.inr rfl) (eo_dct1 (ed_var (pv 1)) (ed_const pe_bl (fun _ => .bl _))) (by rfl))) (sd_cons (sd_set (ps_set (i := 3) nd rfl (by first | exact Or.inl rfl | exact Or.inr rfl) (ed_of (eo_lst (os_cons (od_e (ed_var (pv 1))) os_nil))) (by rfl))) (sd_cons (sd_for PassesOwn.never rfl (it_range1 (by rfl) T.z_range (os_cons (od_e (ed_bin op_addAll d_add (od_e (ed_blt call_lenAll n_len (by rfl) T.z_len bt_len (os_cons (od_p (pv 1)) os_nil))) (od_e (ed_const pe_int (fun _ => .int _))))) os_nil)) (gd_name (pg_name nd rfl (by first | exact Or.inl rfl | exact Or.inr rfl))) (sd_cons (sd_own (ps_set (i := 5) nd rfl (by first | exact Or.inl rfl | exact Or.inr rfl) (eo_lst os_nil) (by rfl))) (sd_cons (sd_for PassesOwn.never rfl (it_seq rfl (ed_var (pv 3))) (gd_name (pg_name nd rfl (by first | exact Or.inl rfl | exact Or.inr rfl))) (sd_one (sd_for PassesOwn.never rfl (it_seq rfl (ed_call rfl (g_law_steps T) (hr.mono (by decide)) (by rfl) (os_cons (od_p (pv 0)) (os_cons (od_p (pv 6)) os_nil)) rfl)) (gd_name (pg_name nd rfl (by first | exact Or.inl rfl | exact Or.inr rfl))) (sd_cons (sd_set (ps_set (i := 8) nd rfl (by first | exact Or.inl rfl | exact Or.inr rfl) (ed_call rfl (g_law_stepped T) (hr.mono (by decide)) (by rfl) (os_cons (od_p (pv 0)) (os_cons (od_p (pv 6)) (os_cons (od_p (pv 7)) os_nil))) rfl) (by rfl))) (sd_one (sd_if (td_dnotin (room1 hr) (od_p (pv 8)) (od_p (pv 2))) (sd_cons (sd_setM (room1 hr) (pv 2) (ed_var (pv 8)) (ed_const pe_bl (fun _ => .bl _))) (sd_one (sd_expr (ed_mutL rfl m_append PySem.F.slot_list_append PySem.F.type_list_append mt_append (pv 5) (os_cons (od_e (ed_var (pv 8))) os_nil))))) sd_nil)))))) (sd_one (sd_set (ps_set (i := 3) nd rfl (by first | exact Or.inl rfl | exact Or.inr rfl) (ed_var (pv 5)) (by rfl))))))) (sd_one (sd_ret (ed_var (pv 2)))))))
theorem g_law_ends (T : Facts κ mg) : Gbl κ pr w mg base "_law_ends" ["rules", "text"] 3 f_law_ends := by
  obtain ⟨fa, fd, a1, a2, a3⟩ := T.d_law_ends
  refine ⟨fa, fd, a1, a2.kp, a3, fn_ok (N := N_law_ends) (m := m_law_ends) a2 sc_law_ends fun cdv A outer s H E hr => ?_⟩
  have nd := sc_law_ends.nd
  have hu := hr.units
  exact (sd_one (sd_ret (ed_of (eo_blt (cr_sortedD hu) o_sorted (by rfl) T.z_sorted bt_sorted (os_cons (od_e (ed_of (eo_comp (own := [(("other" : Str), 2)]) (pe_lc (own := [(("other" : Str), 2)]) rfl nd (it_keysD rfl (ed_call rfl (g_law_spread T) (hr.mono (by decide)) (by rfl) (os_cons (od_p (pv 0)) (os_cons (od_p (pv 1)) os_nil)) rfl)) (blkOk_by (N := N_law_ends) (sc := defScope s_law_ends) (by decide +kernel)) (fun _ _ _ _ _ => (gd_name (pg_name nd rfl (by first | exact Or.inl rfl | exact Or.inr rfl)))) (fun _ _ _ _ _ => (tt_one (td_cmp (op_eqD hu) d_eq (od_e (ed_call rfl (g_law_steps T) (hr.mono (by decide)) (by rfl) (os_cons (od_p (pv 0)) (os_cons (od_p (pv 2)) os_nil)) rfl)) (od_e (ed_of (eo_lst os_nil))) (by rfl)))) (fun _ _ _ _ _ => (ed_var (pv 2))))))) os_nil)))))
theorem ok_law {fa : Addr} {fd : FuncData} (T : Facts κ mg) (a2 : L2.Fun κ.K "law" "law" s_law fa fd) : FnOk pr w κ.K mg base CX0 7 fa fd ["script"] (spD κ f_law 1) := by
  refine fn_ok (N := N_law) (m := m_law) a2 sc_law fun cdv A outer s H E hr => ?_
  have nd := sc_law.nd
  have hu := hr.units
  exact (sd_cons (sd_own (ps_set (i := 1) nd rfl (by first | exact Or.inl rfl | exact Or.inr rfl) (eo_call rfl (g_law_pool T) (hr.mono (by decide)) (by rfl) (os_cons (od_p (pv 0)) os_nil) rfl) (by rfl))) (sd_cons (sd_set (ps_set (i := 2) nd rfl (by first | exact Or.inl rfl | exact Or.inr rfl) (ed_call rfl (g_law_book T) (hr.mono (by decide)) (by rfl) (os_cons (od_p (pv 1)) os_nil) rfl) (by rfl))) (sd_cons (sd_if (td_cmp op_isNotK0 d_isNot (od_e (ed_call rfl (g_is_book T) (hr.mono (by decide)) (by rfl) (os_cons (od_e (ed_call rfl (g_law_copied T 4) (hr.mono (by decide)) (by rfl) (os_cons (od_p (pv 2)) os_nil) rfl)) os_nil) rfl)) (od_e (ed_const pe_bl (fun _ => .bl _))) (by rfl)) (sd_one (sd_ret (ed_const pe_bl (fun _ => .bl _)))) sd_nil) (sd_cons (sd_for PassesOwn.never rfl (it_range1 (by rfl) T.z_range (os_cons (od_e (ed_const pe_int (fun _ => .int _))) os_nil)) (gd_name (pg_name nd rfl (by first | exact Or.inl rfl | exact Or.inr rfl))) (sd_cons (sd_expr (ed_call rfl (g_law_next T) (hr.mono (by decide)) (by rfl) (os_cons (od_p (pv 1)) os_nil) rfl)) (sd_cons (sd_set (ps_set (i := 4) nd rfl (by first | exact Or.inl rfl | exact Or.inr rfl) (ed_call rfl (g_law_letters_drawn T) (hr.mono (by decide)) (by rfl) (os_cons (od_p (pv 1)) (os_cons (od_e (ed_const pe_int (fun _ => .int _))) os_nil)) rfl) (by rfl))) (sd_cons (sd_set (ps_set (i := 5) nd rfl (by first | exact Or.inl rfl | exact Or.inr rfl) (ed_of (eo_ty call_list_of o_list (by rfl) T.z_list bt_list (os_cons (od_p (pv 2)) os_nil))) (by rfl))) (sd_cons (sd_set (ps_set (i := 6) nd rfl (by first | exact Or.inl rfl | exact Or.inr rfl) (ed_call rfl (g_law_steps T) (hr.mono (by decide)) (by rfl) (os_cons (od_p (pv 2)) (os_cons (od_p (pv 4)) os_nil)) rfl) (by rfl))) (sd_cons (sd_set (ps_set (i := 7) nd rfl (by first | exact Or.inl rfl | exact Or.inr rfl) (ed_call rfl (g_ends T) (hr.mono (by decide)) (by rfl) (os_cons (od_p (pv 5)) (os_cons (od_p (pv 4)) os_nil)) rfl) (by rfl))) (sd_cons (sd_if (PW.pt (tw_or (td_not (td_val (ed_call rfl (g_law_same T 4) (hr.mono (by decide)) (by rfl) (os_cons (od_e (ed_of (eo_lst (os_cons (od_e (ed_call rfl (g_steps T) (hr.mono (by decide)) (by rfl) (os_cons (od_p (pv 5)) (os_cons (od_p (pv 4)) os_nil)) rfl)) (os_cons (od_e (ed_var (pv 7))) os_nil))))) (os_cons (od_e (ed_of (eo_lst (os_cons (od_e (ed_var (pv 6))) (os_cons (od_e (ed_call rfl (g_law_ends T) (hr.mono (by decide)) (by rfl) (os_cons (od_p (pv 2)) (os_cons (od_p (pv 4)) os_nil)) rfl)) os_nil))))) os_nil)) rfl))) (tw_or1 (td_cmp (op_neD hu) d_ne (od_p (pv 5)) (od_p (pv 2)) (by rfl))))) (sd_one (sd_ret (ed_const pe_bl (fun _ => .bl _)))) sd_nil) (sd_cons (sd_if (td_not (td_val (ed_blt (cr_all rfl) n_all (by rfl) T.z_all bt_all (os_cons (od_e (ed_of (eo_comp (own := [(("step" : Str), 11)]) (pe_lc (own := [(("step" : Str), 11)]) rfl nd (it_seq rfl (ed_var (pv 6))) (blkOk_by (N := N_law) (sc := defScope s_law) (by decide +kernel)) (fun _ _ _ _ _ => (gd_name (pg_name nd rfl (by first | exact Or.inl rfl | exact Or.inr rfl)))) (fun _ _ _ _ _ => tt_nil) (fun _ _ _ _ _ => (ed_cmp (op_eqD hu) d_eq (od_e (ed_call rfl (g_stepped T) (hr.mono (by decide)) (by rfl) (os_cons (od_p (pv 2)) (os_cons (od_p (pv 4)) (os_cons (od_p (pv 11)) os_nil))) rfl)) (od_e (ed_call rfl (g_law_stepped T) (hr.mono (by decide)) (by rfl) (os_cons (od_p (pv 2)) (os_cons (od_p (pv 4)) (os_cons (od_p (pv 11)) os_nil))) rfl)) (by rfl))))))) os_nil)))) (sd_one (sd_ret (ed_const pe_bl (fun _ => .bl _)))) sd_nil) (sd_cons (sd_if (td_val (ed_blt (cr_any rfl) n_any (by rfl) T.z_any bt_any (os_cons (od_e (ed_of (eo_comp (own := [(("end" : Str), 8)]) (pe_lc (own := [(("end" : Str), 8)]) rfl nd (it_seq rfl (ed_var (pv 7))) (blkOk_by (N := N_law) (sc := defScope s_law) (by decide +kernel)) (fun _ _ _ _ _ => (gd_name (pg_name nd rfl (by first | exact Or.inl rfl | exact Or.inr rfl)))) (fun _ _ _ _ _ => tt_nil) (fun _ _ _ _ _ => (ed_cmp op_gt d_gtI (od_e (ed_blt call_lenAll n_len (by rfl) T.z_len bt_len (os_cons (od_p (pv 8)) os_nil))) (od_e (ed_blt call_lenAll n_len (by rfl) T.z_len bt_len (os_cons (od_p (pv 4)) os_nil))) (by rfl))))))) os_nil))) (sd_one (sd_ret (ed_const pe_bl (fun _ => .bl _)))) sd_nil) (sd_cons (sd_unp (ed_call rfl (g_set_text T) (hr.mono (by decide)) (by rfl) (os_cons (od_p (pv 5)) (os_cons (od_p (pv 4)) os_nil)) rfl) (gd_tup rfl rfl (gds_cons (gd_name (pg_name nd rfl (by first | exact Or.inl rfl | exact Or.inr rfl))) (gds_cons (gd_name (pg_name nd rfl (by first | exact Or.inl rfl | exact Or.inr rfl))) gds_nil)))) (sd_cons (sd_set (ps_set (i := 10) nd rfl (by first | exact Or.inl rfl | exact Or.inr rfl) (ed_var (pv 4)) (by rfl))) (sd_cons (sd_for PassesOwn.never rfl (it_seq rfl (ed_var (pv 9))) (gd_name (pg_name nd rfl (by first | exact Or.inl rfl | exact Or.inr rfl))) (sd_cons (sd_set (ps_set (i := 12) nd rfl (by first | exact Or.inl rfl | exact Or.inr rfl) (ed_blt (call_minA rfl hu) n_min (by rfl) T.z_min bt_min (os_cons (od_e (ed_of (eo_comp (own := [(("place" : Str), 18), (("number" : Str), 19)]) (pe_lc (own := [(("place" : Str), 18), (("number" : Str), 19)]) rfl nd (it_seq rfl (ed_call rfl (g_law_steps T) (hr.mono (by decide)) (by rfl) (os_cons (od_p (pv 2)) (os_cons (od_p (pv 10)) os_nil)) rfl)) (blkOk_by (N := N_law) (sc := defScope s_law) (by decide +kernel)) (fun _ _ _ _ _ => (gd_tup rfl rfl (gds_cons (gd_name (pg_name nd rfl (by first | exact Or.inl rfl | exact Or.inr rfl))) (gds_cons (gd_name (pg_name nd rfl (by first | exact Or.inl rfl | exact Or.inr rfl))) gds_nil)))) (fun _ _ _ _ _ => tt_nil) (fun _ _ _ _ _ => (ed_tup (os_cons (od_e (ed_var (pv 18))) (os_cons (od_e (ed_un un_neg d_neg (od_e (ed_blt call_lenAll n_len (by rfl) T.z_len bt_len (os_cons (od_e (ed_ix ix_seq d_ix (od_e (ed_ix ix_seq d_ix (od_p (pv 2)) (od_p (pv 19)) (fun _ _ => rfl))) (od_e (ed_const pe_int (fun _ => .int _))) (fun _ _ => rfl))) os_nil))))) (os_cons (od_e (ed_var (pv 19))) os_nil))))))))) os_nil)) (by rfl))) (sd_cons (sd_if (td_cmp (op_neD hu) d_ne (od_p (pv 11)) (od_e (ed_tup (os_cons (od_e (ed_ix ix_seq d_ix (od_p (pv 12)) (od_e (ed_const pe_int (fun _ => .int _))) (fun _ _ => rfl))) (os_cons (od_e (ed_ix ix_seq d_ix (od_p (pv 12)) (od_e (ed_const pe_int (fun _ => .int _))) (fun _ _ => rfl))) os_nil)))) (by rfl)) (sd_one (sd_ret (ed_const pe_bl (fun _ => .bl _)))) sd_nil) (sd_one (sd_set (ps_set (i := 10) nd rfl (by first | exact Or.inl rfl | exact Or.inr rfl) (ed_call rfl (g_law_stepped T) (hr.mono (by decide)) (by rfl) (os_cons (od_p (pv 2)) (os_cons (od_p (pv 10)) (os_cons (od_p (pv 11)) os_nil))) rfl) (by rfl))))))) (sd_cons (sd_if (PW.pt (tw_or (td_cmp (op_neD hu) d_ne (od_p (pv 10)) (od_p (pv 8)) (by rfl)) (tw_or (td_cmp (op_neD hu) d_ne (od_e (ed_call rfl (g_law_steps T) (hr.mono (by decide)) (by rfl) (os_cons (od_p (pv 2)) (os_cons (od_p (pv 8)) os_nil)) rfl)) (od_e (ed_of (eo_lst os_nil))) (by rfl)) (tw_or1 (td_cmp (op_notInA (room65 hr)) d_notIn (od_p (pv 8)) (od_p (pv 7)) (by rfl)))))) (sd_one (sd_ret (ed_const pe_bl (fun _ => .bl _)))) sd_nil) (sd_one (sd_for PassesOwn.never rfl (it_range1 (by rfl) T.z_range (os_cons (od_e (ed_const pe_int (fun _ => .int _))) os_nil)) (gd_name (pg_name nd rfl (by first | exact Or.inl rfl | exact Or.inr rfl))) (sd_cons (sd_set (ps_set (i := 14) nd rfl (by first | exact Or.inl rfl | exact Or.inr rfl) (ed_ifx (td_cmp (op_eqD hu) d_eq (od_p (pv 13)) (od_e (ed_const pe_int (fun _ => .int _))) (by rfl)) (ed_var (pv 9)) (ed_call rfl (g_law_bent T) (hr.mono (by decide)) (by rfl) (os_cons (od_p (pv 1)) (os_cons (od_p (pv 9)) os_nil)) rfl)) (by rfl))) (sd_cons (sd_set (ps_set (i := 15) nd rfl (by first | exact Or.inl rfl | exact Or.inr rfl) (ed_call rfl (g_law_pick T) (hr.mono (by decide)) (by rfl) (os_cons (od_p (pv 1)) (os_cons (od_e (ed_of (eo_lst (os_cons (od_e (ed_var (pv 8))) (os_cons (od_e (ed_var (pv 4))) (os_cons (od_e (ed_call rfl (g_law_pick T) (hr.mono (by decide)) (by rfl) (os_cons (od_p (pv 1)) (os_cons (od_p (pv 7)) os_nil)) rfl)) os_nil)))))) os_nil)) rfl) (by rfl))) (sd_cons (sd_set (ps_set (i := 16) nd rfl (by first | exact Or.inl rfl | exact Or.inr rfl) (ed_and (ed_cmp (op_eqD hu) d_eq (od_e (ed_call rfl (g_law_led T) (hr.mono (by decide)) (by rfl) (os_cons (od_p (pv 2)) (os_cons (od_p (pv 4)) (os_cons (od_p (pv 14)) os_nil))) rfl)) (od_p (pv 15)) (by rfl)) (ed_one (ed_cmp (op_eqD hu) d_eq (od_e (ed_call rfl (g_law_steps T) (hr.mono (by decide)) (by rfl) (os_cons (od_p (pv 2)) (os_cons (od_p (pv 15)) os_nil)) rfl)) (od_e (ed_of (eo_lst os_nil))) (by rfl)))) (by rfl))) (sd_one (sd_if (td_not (td_val (ed_call rfl (g_law_same T 4) (hr.mono (by decide)) (by rfl) (os_cons (od_e (ed_call rfl (g_judge_row T) (hr.mono (by decide)) (by rfl) (os_cons (od_p (pv 2)) (os_cons (od_p (pv 4)) (os_cons (od_e (ed_of (eo_ty call_list_of o_list (by rfl) T.z_list bt_list (os_cons (od_p (pv 14)) os_nil)))) (os_cons (od_p (pv 15)) os_nil)))) rfl)) (os_cons (od_p (pv 16)) os_nil)) rfl))) (sd_one (sd_ret (ed_const pe_bl (fun _ => .bl _)))) sd_nil)))))))))))))))))))) (sd_one (sd_ret (ed_and (ed_blt (cr_all rfl) n_all (by rfl) T.z_all bt_all (os_cons (od_e (ed_of (eo_comp (own := [(("value" : Str), 17)]) (pe_lc (own := [(("value" : Str), 17)]) rfl nd (it_seq rfl (ed_call0 rfl (g_law_wrong T) (hr.mono (by decide)) (by rfl))) (blkOk_by (N := N_law) (sc := defScope s_law) (by decide +kernel)) (fun _ _ _ _ _ => (gd_name (pg_name nd rfl (by first | exact Or.inl rfl | exact Or.inr rfl)))) (fun _ _ _ _ _ => tt_nil) (fun _ _ _ _ _ => (ed_cmp op_isK0 d_is (od_e (ed_call rfl (g_is_book T) (hr.mono (by decide)) (by rfl) (os_cons (od_p (pv 17)) os_nil) rfl)) (od_e (ed_const pe_bl (fun _ => .bl _))) (by rfl))))))) os_nil)) (ed_one (ed_cmp op_isK0 d_is (od_e (ed_call rfl (g_is_book T) (hr.mono (by decide)) (by rfl) (os_cons (od_e (ed_of (eo_lst os_nil))) os_nil) rfl)) (od_e (ed_const pe_bl (fun _ => .bl _))) (by rfl))))))))))
end
theorem all_mk {pr : Program} {w : World} {K : PySem.W.Frag} {h : Heap} {mg : Str → Option Value} {fa f1 f2 f3 f4 f5 f6 f7 f8 f9 f10 f11 f12 f13 f14 f15 f16 f17 f18 f19 f20 f21 f22 f23 f24 f25 f26 f27 f28 f29 : Addr} (X : K.In h) (G : h.Ns mainGlobals mg) (hfa : mg "law" = some (.ref fa))
    {od1 an1 od2 an2 od3 an3 od4 an4 od5 an5 od6 an6 od7 an7 od8 an8 od9 an9 od10 an10 od11 an11 od12 an12 od13 an13 od14 an14 od15 an15 od16 an16 od17 an17 od18 an18 od19 an19 od20 an20 od21 an21 od22 an22 od23 an23 od24 an24 od25 an25 od26 an26 od27 an27 od28 an28 od29 an29 : Option Addr} {sl1 sl2 sl3 sl4 sl5 sl6 sl7 sl8 sl9 sl10 sl11 sl12 sl13 sl14 sl15 sl16 sl17 sl18 sl19 sl20 sl21 sl22 sl23 sl24 sl25 sl26 sl27 sl28 sl29 : Array (Option Value)} {oc1 kV1 dc1 pm1 cd1 ct1 oc2 kV2 dc2 pm2 cd2 ct2 oc3 kV3 dc3 pm3 cd3 ct3 oc4 kV4 dc4 pm4 cd4 ct4 oc5 kV5 dc5 pm5 cd5 ct5 oc6 kV6 dc6 pm6 cd6 ct6 oc7 kV7 dc7 pm7 cd7 ct7 oc8 kV8 dc8 pm8 cd8 ct8 oc9 kV9 dc9 pm9 cd9 ct9 oc10 kV10 dc10 pm10 cd10 ct10 oc11 kV11 dc11 pm11 cd11 ct11 oc12 kV12 dc12 pm12 cd12 ct12 oc13 kV13 dc13 pm13 cd13 ct13 oc14 kV14 dc14 pm14 cd14 ct14 oc15 kV15 dc15 pm15 cd15 ct15 oc16 kV16 dc16 pm16 cd16 ct16 oc17 kV17 dc17 pm17 cd17 ct17 oc18 kV18 dc18 pm18 cd18 ct18 oc19 kV19 dc19 pm19 cd19 ct19 oc20 kV20 dc20 pm20 cd20 ct20 oc21 kV21 dc21 pm21 cd21 ct21 oc22 kV22 dc22 pm22 cd22 ct22 oc23 kV23 dc23 pm23 cd23 ct23 oc24 kV24 dc24 pm24 cd24 ct24 oc25 kV25 dc25 pm25 cd25 ct25 oc26 kV26 dc26 pm26 cd26 ct26 oc27 kV27 dc27 pm27 cd27 ct27 oc28 kV28 dc28 pm28 cd28 ct28 oc29 kV29 dc29 pm29 cd29 ct29 : Value} {gt0 : Tok} {gt1 : Tok} {gt2 : Tok}
    (a1 : PySem.W.nsIn K mainGlobals "_law_mixed" = some (some (.ref f1))) (l1 : K.lookup f1 = some ⟨oc1, od1, .func (PySem.W.fnOf "_law_mixed" "_law_mixed" (defArgs s_law_mixed) (defBody s_law_mixed) (defScope s_law_mixed) .none kV1 dc1 pm1 an1 cd1 ct1), sl1⟩) (c1 : PySem.W.codeIn K cd1 "_law_mixed" = true) (k1 : PySem.W.keepIn K (.ref f1) = true)
    (a2 : PySem.W.nsIn K mainGlobals "_law_rest" = some (some (.ref f2))) (l2 : K.lookup f2 = some ⟨oc2, od2, .func (PySem.W.fnOf "_law_rest" "_law_rest" (defArgs s_law_rest) (defBody s_law_rest) (defScope s_law_rest) .none kV2 dc2 pm2 an2 cd2 ct2), sl2⟩) (c2 : PySem.W.codeIn K cd2 "_law_rest" = true) (k2 : PySem.W.keepIn K (.ref f2) = true)
    (a3 : PySem.W.nsIn K mainGlobals "_law_pool" = some (some (.ref f3))) (l3 : K.lookup f3 = some ⟨oc3, od3, .func (PySem.W.fnOf "_law_pool" "_law_pool" (defArgs s_law_pool) (defBody s_law_pool) (defScope s_law_pool) .none kV3 dc3 pm3 an3 cd3 ct3), sl3⟩) (c3 : PySem.W.codeIn K cd3 "_law_pool" = true) (k3 : PySem.W.keepIn K (.ref f3) = true)
    (a4 : PySem.W.nsIn K mainGlobals "_law_next" = some (some (.ref f4))) (l4 : K.lookup f4 = some ⟨oc4, od4, .func (PySem.W.fnOf "_law_next" "_law_next" (defArgs s_law_next) (defBody s_law_next) (defScope s_law_next) .none kV4 dc4 pm4 an4 cd4 ct4), sl4⟩) (c4 : PySem.W.codeIn K cd4 "_law_next" = true) (k4 : PySem.W.keepIn K (.ref f4) = true)
    (a5 : PySem.W.nsIn K mainGlobals "_law_draw" = some (some (.ref f5))) (l5 : K.lookup f5 = some ⟨oc5, od5, .func (PySem.W.fnOf "_law_draw" "_law_draw" (defArgs s_law_draw) (defBody s_law_draw) (defScope s_law_draw) .none kV5 dc5 pm5 an5 cd5 ct5), sl5⟩) (c5 : PySem.W.codeIn K cd5 "_law_draw" = true) (k5 : PySem.W.keepIn K (.ref f5) = true)
    (a6 : PySem.W.nsIn K mainGlobals "_law_pick" = some (some (.ref f6))) (l6 : K.lookup f6 = some ⟨oc6, od6, .func (PySem.W.fnOf "_law_pick" "_law_pick" (defArgs s_law_pick) (defBody s_law_pick) (defScope s_law_pick) .none kV6 dc6 pm6 an6 cd6 ct6), sl6⟩) (c6 : PySem.W.codeIn K cd6 "_law_pick" = true) (k6 : PySem.W.keepIn K (.ref f6) = true)
    (a7 : PySem.W.nsIn K mainGlobals "_law_letters_drawn" = some (some (.ref f7))) (l7 : K.lookup f7 = some ⟨oc7, od7, .func (PySem.W.fnOf "_law_letters_drawn" "_law_letters_drawn" (defArgs s_law_letters_drawn) (defBody s_law_letters_drawn) (defScope s_law_letters_drawn) .none kV7 dc7 pm7 an7 cd7 ct7), sl7⟩) (c7 : PySem.W.codeIn K cd7 "_law_letters_drawn" = true) (k7 : PySem.W.keepIn K (.ref f7) = true)
    (a8 : PySem.W.nsIn K mainGlobals "_law_book" = some (some (.ref f8))) (l8 : K.lookup f8 = some ⟨oc8, od8, .func (PySem.W.fnOf "_law_book" "_law_book" (defArgs s_law_book) (defBody s_law_book) (defScope s_law_book) .none kV8 dc8 pm8 an8 cd8 ct8), sl8⟩) (c8 : PySem.W.codeIn K cd8 "_law_book" = true) (k8 : PySem.W.keepIn K (.ref f8) = true)
    (a9 : PySem.W.nsIn K mainGlobals "is_text" = some (some (.ref f9))) (l9 : K.lookup f9 = some ⟨oc9, od9, .func (PySem.W.fnOf "is_text" "is_text" (defArgs s_is_text) (defBody s_is_text) (defScope s_is_text) .none kV9 dc9 pm9 an9 cd9 ct9), sl9⟩) (c9 : PySem.W.codeIn K cd9 "is_text" = true) (k9 : PySem.W.keepIn K (.ref f9) = true)
    (a10 : PySem.W.nsIn K mainGlobals "is_rule" = some (some (.ref f10))) (l10 : K.lookup f10 = some ⟨oc10, od10, .func (PySem.W.fnOf "is_rule" "is_rule" (defArgs s_is_rule) (defBody s_is_rule) (defScope s_is_rule) .none kV10 dc10 pm10 an10 cd10 ct10), sl10⟩) (c10 : PySem.W.codeIn K cd10 "is_rule" = true) (k10 : PySem.W.keepIn K (.ref f10) = true)
    (a11 : PySem.W.nsIn K mainGlobals "is_book" = some (some (.ref f11))) (l11 : K.lookup f11 = some ⟨oc11, od11, .func (PySem.W.fnOf "is_book" "is_book" (defArgs s_is_book) (defBody s_is_book) (defScope s_is_book) .none kV11 dc11 pm11 an11 cd11 ct11), sl11⟩) (c11 : PySem.W.codeIn K cd11 "is_book" = true) (k11 : PySem.W.keepIn K (.ref f11) = true)
    (a12 : PySem.W.nsIn K mainGlobals "_law_steps" = some (some (.ref f12))) (l12 : K.lookup f12 = some ⟨oc12, od12, .func (PySem.W.fnOf "_law_steps" "_law_steps" (defArgs s_law_steps) (defBody s_law_steps) (defScope s_law_steps) .none kV12 dc12 pm12 an12 cd12 ct12), sl12⟩) (c12 : PySem.W.codeIn K cd12 "_law_steps" = true) (k12 : PySem.W.keepIn K (.ref f12) = true)
    (a13 : PySem.W.nsIn K mainGlobals "steps" = some (some (.ref f13))) (l13 : K.lookup f13 = some ⟨oc13, od13, .func (PySem.W.fnOf "steps" "steps" (defArgs s_steps) (defBody s_steps) (defScope s_steps) .none kV13 dc13 pm13 an13 cd13 ct13), sl13⟩) (c13 : PySem.W.codeIn K cd13 "steps" = true) (k13 : PySem.W.keepIn K (.ref f13) = true)
    (a14 : PySem.W.nsIn K mainGlobals "stepped" = some (some (.ref f14))) (l14 : K.lookup f14 = some ⟨oc14, od14, .func (PySem.W.fnOf "stepped" "stepped" (defArgs s_stepped) (defBody s_stepped) (defScope s_stepped) .none kV14 dc14 pm14 an14 cd14 ct14), sl14⟩) (c14 : PySem.W.codeIn K cd14 "stepped" = true) (k14 : PySem.W.keepIn K (.ref f14) = true)
    (a15 : PySem.W.nsIn K mainGlobals "rows_to" = some (some (.ref f15))) (l15 : K.lookup f15 = some ⟨oc15, od15, .func (PySem.W.fnOf "rows_to" "rows_to" (defArgs s_rows_to) (defBody s_rows_to) (defScope s_rows_to) .none kV15 dc15 pm15 an15 cd15 ct15), sl15⟩) (c15 : PySem.W.codeIn K cd15 "rows_to" = true) (k15 : PySem.W.keepIn K (.ref f15) = true)
    (a16 : PySem.W.nsIn K mainGlobals "ends" = some (some (.ref f16))) (l16 : K.lookup f16 = some ⟨oc16, od16, .func (PySem.W.fnOf "ends" "ends" (defArgs s_ends) (defBody s_ends) (defScope s_ends) .none kV16 dc16 pm16 an16 cd16 ct16), sl16⟩) (c16 : PySem.W.codeIn K cd16 "ends" = true) (k16 : PySem.W.keepIn K (.ref f16) = true)
    (a17 : PySem.W.nsIn K mainGlobals "first_step" = some (some (.ref f17))) (l17 : K.lookup f17 = some ⟨oc17, od17, .func (PySem.W.fnOf "first_step" "first_step" (defArgs s_first_step) (defBody s_first_step) (defScope s_first_step) .none kV17 dc17 pm17 an17 cd17 ct17), sl17⟩) (c17 : PySem.W.codeIn K cd17 "first_step" = true) (k17 : PySem.W.keepIn K (.ref f17) = true)
    (a18 : PySem.W.nsIn K mainGlobals "set_text" = some (some (.ref f18))) (l18 : K.lookup f18 = some ⟨oc18, od18, .func (PySem.W.fnOf "set_text" "set_text" (defArgs s_set_text) (defBody s_set_text) (defScope s_set_text) .none kV18 dc18 pm18 an18 cd18 ct18), sl18⟩) (c18 : PySem.W.codeIn K cd18 "set_text" = true) (k18 : PySem.W.keepIn K (.ref f18) = true)
    (a19 : PySem.W.nsIn K mainGlobals "_law_copied" = some (some (.ref f19))) (l19 : K.lookup f19 = some ⟨oc19, od19, .func (PySem.W.fnOf "_law_copied" "_law_copied" (defArgs s_law_copied) (defBody s_law_copied) (defScope s_law_copied) .none kV19 dc19 pm19 an19 cd19 ct19), sl19⟩) (c19 : PySem.W.codeIn K cd19 "_law_copied" = true) (k19 : PySem.W.keepIn K (.ref f19) = true)
    (a20 : PySem.W.nsIn K mainGlobals "_law_stepped" = some (some (.ref f20))) (l20 : K.lookup f20 = some ⟨oc20, od20, .func (PySem.W.fnOf "_law_stepped" "_law_stepped" (defArgs s_law_stepped) (defBody s_law_stepped) (defScope s_law_stepped) .none kV20 dc20 pm20 an20 cd20 ct20), sl20⟩) (c20 : PySem.W.codeIn K cd20 "_law_stepped" = true) (k20 : PySem.W.keepIn K (.ref f20) = true)
    (a21 : PySem.W.nsIn K mainGlobals "_law_same" = some (some (.ref f21))) (l21 : K.lookup f21 = some ⟨oc21, od21, .func (PySem.W.fnOf "_law_same" "_law_same" (defArgs s_law_same) (defBody s_law_same) (defScope s_law_same) .none kV21 dc21 pm21 an21 cd21 ct21), sl21⟩) (c21 : PySem.W.codeIn K cd21 "_law_same" = true) (k21 : PySem.W.keepIn K (.ref f21) = true)
    (a22 : PySem.W.nsIn K mainGlobals "_law_bent" = some (some (.ref f22))) (l22 : K.lookup f22 = some ⟨oc22, od22, .func (PySem.W.fnOf "_law_bent" "_law_bent" (defArgs s_law_bent) (defBody s_law_bent) (defScope s_law_bent) .none kV22 dc22 pm22 an22 cd22 ct22), sl22⟩) (c22 : PySem.W.codeIn K cd22 "_law_bent" = true) (k22 : PySem.W.keepIn K (.ref f22) = true)
    (a23 : PySem.W.nsIn K mainGlobals "_law_led" = some (some (.ref f23))) (l23 : K.lookup f23 = some ⟨oc23, od23, .func (PySem.W.fnOf "_law_led" "_law_led" (defArgs s_law_led) (defBody s_law_led) (defScope s_law_led) .none kV23 dc23 pm23 an23 cd23 ct23), sl23⟩) (c23 : PySem.W.codeIn K cd23 "_law_led" = true) (k23 : PySem.W.keepIn K (.ref f23) = true)
    (a24 : PySem.W.nsIn K mainGlobals "led_by" = some (some (.ref f24))) (l24 : K.lookup f24 = some ⟨oc24, od24, .func (PySem.W.fnOf "led_by" "led_by" (defArgs s_led_by) (defBody s_led_by) (defScope s_led_by) .none kV24 dc24 pm24 an24 cd24 ct24), sl24⟩) (c24 : PySem.W.codeIn K cd24 "led_by" = true) (k24 : PySem.W.keepIn K (.ref f24) = true)
    (a25 : PySem.W.nsIn K mainGlobals "judge_row" = some (some (.ref f25))) (l25 : K.lookup f25 = some ⟨oc25, od25, .func (PySem.W.fnOf "judge_row" "judge_row" (defArgs s_judge_row) (defBody s_judge_row) (defScope s_judge_row) .none kV25 dc25 pm25 an25 cd25 ct25), sl25⟩) (c25 : PySem.W.codeIn K cd25 "judge_row" = true) (k25 : PySem.W.keepIn K (.ref f25) = true)
    (a26 : PySem.W.nsIn K mainGlobals "_law_wrong" = some (some (.ref f26))) (l26 : K.lookup f26 = some ⟨oc26, od26, .func (PySem.W.fnOf "_law_wrong" "_law_wrong" (defArgs s_law_wrong) (defBody s_law_wrong) (defScope s_law_wrong) .none kV26 dc26 pm26 an26 cd26 ct26), sl26⟩) (c26 : PySem.W.codeIn K cd26 "_law_wrong" = true) (k26 : PySem.W.keepIn K (.ref f26) = true)
    (a27 : PySem.W.nsIn K mainGlobals "_law_spread" = some (some (.ref f27))) (l27 : K.lookup f27 = some ⟨oc27, od27, .func (PySem.W.fnOf "_law_spread" "_law_spread" (defArgs s_law_spread) (defBody s_law_spread) (defScope s_law_spread) .none kV27 dc27 pm27 an27 cd27 ct27), sl27⟩) (c27 : PySem.W.codeIn K cd27 "_law_spread" = true) (k27 : PySem.W.keepIn K (.ref f27) = true)
    (a28 : PySem.W.nsIn K mainGlobals "_law_ends" = some (some (.ref f28))) (l28 : K.lookup f28 = some ⟨oc28, od28, .func (PySem.W.fnOf "_law_ends" "_law_ends" (defArgs s_law_ends) (defBody s_law_ends) (defScope s_law_ends) .none kV28 dc28 pm28 an28 cd28 ct28), sl28⟩) (c28 : PySem.W.codeIn K cd28 "_law_ends" = true) (k28 : PySem.W.keepIn K (.ref f28) = true)
    (a29 : PySem.W.nsIn K mainGlobals "law" = some (some (.ref f29))) (l29 : K.lookup f29 = some ⟨oc29, od29, .func (PySem.W.fnOf "law" "law" (defArgs s_law) (defBody s_law) (defScope s_law) .none kV29 dc29 pm29 an29 cd29 ct29), sl29⟩) (c29 : PySem.W.codeIn K cd29 "law" = true) (k29 : PySem.W.keepIn K (.ref f29) = true)
    (z0 : PySem.W.nsIn K mainGlobals "all" = some none)
    (z1 : PySem.W.nsIn K mainGlobals "any" = some none)
    (z2 : PySem.W.nsIn K mainGlobals "bool" = some none)
    (z3 : PySem.W.nsIn K mainGlobals "dict" = some none)
    (z4 : PySem.W.nsIn K mainGlobals "enumerate" = some none)
    (z5 : PySem.W.nsIn K mainGlobals "int" = some none)
    (z6 : PySem.W.nsIn K mainGlobals "isinstance" = some none)
    (z7 : PySem.W.nsIn K mainGlobals "len" = some none)
    (z8 : PySem.W.nsIn K mainGlobals "list" = some none)
    (z9 : PySem.W.nsIn K mainGlobals "min" = some none)
    (z10 : PySem.W.nsIn K mainGlobals "range" = some none)
    (z11 : PySem.W.nsIn K mainGlobals "set" = some none)
    (z12 : PySem.W.nsIn K mainGlobals "sorted" = some none)
    (z13 : PySem.W.nsIn K mainGlobals "str" = some none)
    (z14 : PySem.W.nsIn K mainGlobals "tuple" = some none)
    (g0 : PySem.W.nsIn K mainGlobals "LETTERS" = some (some (.str (Str.ofString "abcdefghijklmnopqrstuvwxyz") gt0)))
    (g1 : PySem.W.nsIn K mainGlobals "MOST_LEFT" = some (some (.int 5 gt1)))
    (g2 : PySem.W.nsIn K mainGlobals "MOST_RULES" = some (some (.int 12 gt2))) :
    ∃ fd : FuncData, (∀ (s : Shared) (v : Value), BindsTo s fd ⟨[v], []⟩ [("script", v)]) ∧ ∀ base : Heap, K.In base → base.Ns mainGlobals mg → FnOk pr w K mg base CX0 7 fa fd ["script"] (spD ⟨K, fun _ => False⟩ f_law 1) := by
  have e := hfa.symm.trans (PySem.W.mg_of X G a29)
  cases e
  have T : Facts ⟨K, fun _ => False⟩ mg := {
    d_law_mixed := ⟨_, _, PySem.W.mg_of X G a1, fun_mk (st := s_law_mixed) l1 c1 k1, (fun_mk (st := s_law_mixed) l1 c1 k1).binds (ps := ["number", "place"]) fun _ _ _ _ _ _ us hl => match us, hl with | [_, _], _ => rfl⟩
    d_law_rest := ⟨_, _, PySem.W.mg_of X G a2, fun_mk (st := s_law_rest) l2 c2 k2, (fun_mk (st := s_law_rest) l2 c2 k2).binds (ps := ["script", "place", "fills"]) fun _ _ _ _ _ _ us hl => match us, hl with | [_, _, _], _ => rfl⟩
    d_law_pool := ⟨_, _, PySem.W.mg_of X G a3, fun_mk (st := s_law_pool) l3 c3 k3, (fun_mk (st := s_law_pool) l3 c3 k3).binds (ps := ["script"]) fun _ _ _ _ _ _ us hl => match us, hl with | [_], _ => rfl⟩
    d_law_next := ⟨_, _, PySem.W.mg_of X G a4, fun_mk (st := s_law_next) l4 c4 k4, (fun_mk (st := s_law_next) l4 c4 k4).binds (ps := ["pool"]) fun _ _ _ _ _ _ us hl => match us, hl with | [_], _ => rfl⟩
    d_law_draw := ⟨_, _, PySem.W.mg_of X G a5, fun_mk (st := s_law_draw) l5 c5 k5, (fun_mk (st := s_law_draw) l5 c5 k5).binds (ps := ["pool", "limit"]) fun _ _ _ _ _ _ us hl => match us, hl with | [_, _], _ => rfl⟩
    d_law_pick := ⟨_, _, PySem.W.mg_of X G a6, fun_mk (st := s_law_pick) l6 c6 k6, (fun_mk (st := s_law_pick) l6 c6 k6).binds (ps := ["pool", "options"]) fun _ _ _ _ _ _ us hl => match us, hl with | [_, _], _ => rfl⟩
    d_law_letters_drawn := ⟨_, _, PySem.W.mg_of X G a7, fun_mk (st := s_law_letters_drawn) l7 c7 k7, (fun_mk (st := s_law_letters_drawn) l7 c7 k7).binds (ps := ["pool", "most"]) fun _ _ _ _ _ _ us hl => match us, hl with | [_, _], _ => rfl⟩
    d_law_book := ⟨_, _, PySem.W.mg_of X G a8, fun_mk (st := s_law_book) l8 c8 k8, (fun_mk (st := s_law_book) l8 c8 k8).binds (ps := ["pool"]) fun _ _ _ _ _ _ us hl => match us, hl with | [_], _ => rfl⟩
    d_is_text := ⟨_, _, PySem.W.mg_of X G a9, fun_mk (st := s_is_text) l9 c9 k9, (fun_mk (st := s_is_text) l9 c9 k9).binds (ps := ["value"]) fun _ _ _ _ _ _ us hl => match us, hl with | [_], _ => rfl⟩
    d_is_rule := ⟨_, _, PySem.W.mg_of X G a10, fun_mk (st := s_is_rule) l10 c10 k10, (fun_mk (st := s_is_rule) l10 c10 k10).binds (ps := ["value"]) fun _ _ _ _ _ _ us hl => match us, hl with | [_], _ => rfl⟩
    d_is_book := ⟨_, _, PySem.W.mg_of X G a11, fun_mk (st := s_is_book) l11 c11 k11, (fun_mk (st := s_is_book) l11 c11 k11).binds (ps := ["value"]) fun _ _ _ _ _ _ us hl => match us, hl with | [_], _ => rfl⟩
    d_law_steps := ⟨_, _, PySem.W.mg_of X G a12, fun_mk (st := s_law_steps) l12 c12 k12, (fun_mk (st := s_law_steps) l12 c12 k12).binds (ps := ["rules", "text"]) fun _ _ _ _ _ _ us hl => match us, hl with | [_, _], _ => rfl⟩
    d_steps := ⟨_, _, PySem.W.mg_of X G a13, fun_mk (st := s_steps) l13 c13 k13, (fun_mk (st := s_steps) l13 c13 k13).binds (ps := ["rules", "text"]) fun _ _ _ _ _ _ us hl => match us, hl with | [_, _], _ => rfl⟩
    d_stepped := ⟨_, _, PySem.W.mg_of X G a14, fun_mk (st := s_stepped) l14 c14 k14, (fun_mk (st := s_stepped) l14 c14 k14).binds (ps := ["rules", "text", "step"]) fun _ _ _ _ _ _ us hl => match us, hl with | [_, _, _], _ => rfl⟩
    d_rows_to := ⟨_, _, PySem.W.mg_of X G a15, fun_mk (st := s_rows_to) l15 c15 k15, (fun_mk (st := s_rows_to) l15 c15 k15).binds (ps := ["rules", "text"]) fun _ _ _ _ _ _ us hl => match us, hl with | [_, _], _ => rfl⟩
    d_ends := ⟨_, _, PySem.W.mg_of X G a16, fun_mk (st := s_ends) l16 c16 k16, (fun_mk (st := s_ends) l16 c16 k16).binds (ps := ["rules", "text"]) fun _ _ _ _ _ _ us hl => match us, hl with | [_, _], _ => rfl⟩
    d_first_step := ⟨_, _, PySem.W.mg_of X G a17, fun_mk (st := s_first_step) l17 c17 k17, (fun_mk (st := s_first_step) l17 c17 k17).binds (ps := ["rules", "text"]) fun _ _ _ _ _ _ us hl => match us, hl with | [_, _], _ => rfl⟩
    d_set_text := ⟨_, _, PySem.W.mg_of X G a18, fun_mk (st := s_set_text) l18 c18 k18, (fun_mk (st := s_set_text) l18 c18 k18).binds (ps := ["rules", "text"]) fun _ _ _ _ _ _ us hl => match us, hl with | [_, _], _ => rfl⟩
    d_law_copied := ⟨_, _, PySem.W.mg_of X G a19, fun_mk (st := s_law_copied) l19 c19 k19, (fun_mk (st := s_law_copied) l19 c19 k19).binds (ps := ["value"]) fun _ _ _ _ _ _ us hl => match us, hl with | [_], _ => rfl⟩
    d_law_stepped := ⟨_, _, PySem.W.mg_of X G a20, fun_mk (st := s_law_stepped) l20 c20 k20, (fun_mk (st := s_law_stepped) l20 c20 k20).binds (ps := ["rules", "text", "step"]) fun _ _ _ _ _ _ us hl => match us, hl with | [_, _, _], _ => rfl⟩
    d_law_same := ⟨_, _, PySem.W.mg_of X G a21, fun_mk (st := s_law_same) l21 c21 k21, (fun_mk (st := s_law_same) l21 c21 k21).binds (ps := ["answer", "due"]) fun _ _ _ _ _ _ us hl => match us, hl with | [_, _], _ => rfl⟩
    d_law_bent := ⟨_, _, PySem.W.mg_of X G a22, fun_mk (st := s_law_bent) l22 c22 k22, (fun_mk (st := s_law_bent) l22 c22 k22).binds (ps := ["pool", "row"]) fun _ _ _ _ _ _ us hl => match us, hl with | [_, _], _ => rfl⟩
    d_law_led := ⟨_, _, PySem.W.mg_of X G a23, fun_mk (st := s_law_led) l23 c23 k23, (fun_mk (st := s_law_led) l23 c23 k23).binds (ps := ["rules", "text", "row"]) fun _ _ _ _ _ _ us hl => match us, hl with | [_, _, _], _ => rfl⟩
    d_led_by := ⟨_, _, PySem.W.mg_of X G a24, fun_mk (st := s_led_by) l24 c24 k24, (fun_mk (st := s_led_by) l24 c24 k24).binds (ps := ["rules", "text", "row"]) fun _ _ _ _ _ _ us hl => match us, hl with | [_, _, _], _ => rfl⟩
    d_judge_row := ⟨_, _, PySem.W.mg_of X G a25, fun_mk (st := s_judge_row) l25 c25 k25, (fun_mk (st := s_judge_row) l25 c25 k25).binds (ps := ["rules", "text", "row", "end"]) fun _ _ _ _ _ _ us hl => match us, hl with | [_, _, _, _], _ => rfl⟩
    d_law_wrong := ⟨_, _, PySem.W.mg_of X G a26, fun_mk (st := s_law_wrong) l26 c26 k26, (fun_mk (st := s_law_wrong) l26 c26 k26).binds (ps := []) fun _ _ _ _ _ _ us hl => match us, hl with | [], _ => rfl⟩
    d_law_spread := ⟨_, _, PySem.W.mg_of X G a27, fun_mk (st := s_law_spread) l27 c27 k27, (fun_mk (st := s_law_spread) l27 c27 k27).binds (ps := ["rules", "text"]) fun _ _ _ _ _ _ us hl => match us, hl with | [_, _], _ => rfl⟩
    d_law_ends := ⟨_, _, PySem.W.mg_of X G a28, fun_mk (st := s_law_ends) l28 c28 k28, (fun_mk (st := s_law_ends) l28 c28 k28).binds (ps := ["rules", "text"]) fun _ _ _ _ _ _ us hl => match us, hl with | [_, _], _ => rfl⟩
    d_law := ⟨_, _, PySem.W.mg_of X G a29, fun_mk (st := s_law) l29 c29 k29, (fun_mk (st := s_law) l29 c29 k29).binds (ps := ["script"]) fun _ _ _ _ _ _ us hl => match us, hl with | [_], _ => rfl⟩
    z_all := PySem.W.mg_none_of X G z0
    z_any := PySem.W.mg_none_of X G z1
    z_bool := PySem.W.mg_none_of X G z2
    z_dict := PySem.W.mg_none_of X G z3
    z_enumerate := PySem.W.mg_none_of X G z4
    z_int := PySem.W.mg_none_of X G z5
    z_isinstance := PySem.W.mg_none_of X G z6
    z_len := PySem.W.mg_none_of X G z7
    z_list := PySem.W.mg_none_of X G z8
    z_min := PySem.W.mg_none_of X G z9
    z_range := PySem.W.mg_none_of X G z10
    z_set := PySem.W.mg_none_of X G z11
    z_sorted := PySem.W.mg_none_of X G z12
    z_str := PySem.W.mg_none_of X G z13
    z_tuple := PySem.W.mg_none_of X G z14
    n_LETTERS := ⟨_, PySem.W.mg_of X G g0⟩
    n_MOST_LEFT := ⟨_, PySem.W.mg_of X G g1⟩
    n_MOST_RULES := ⟨_, PySem.W.mg_of X G g2⟩ }
  refine ⟨PySem.W.fnOf "law" "law" (defArgs s_law) (defBody s_law) (defScope s_law) .none kV29 dc29 pm29 an29 cd29 ct29, fun s v => .of_eq rfl, fun base _ _ => ?_⟩
  exact ok_law (pr := pr) (w := w) (base := base) T (fun_mk (st := s_law) l29 c29 k29)
end G
/-! The pool that every law draws from. -/
namespace G
open PySem L2 DL
abbrev v2 (a b : Int) : D := .tuple [.int a, .int b]
abbrev scr (ns : List Int) : D := .dict [(.none, .list (ns.map .int))]
abbrev pl (ns : List Int) (k v f : Int) : List D := [scr ns, .int k, .int v, .int f]
structure Pool (ns : List Int) (c : Nat) (p : List D) : Prop where
  ex : ∃ k v f : Int, p = pl ns k v f ∧ 0 ≤ k ∧ k ≤ c ∧ 0 ≤ f ∧ f ≤ c ∧ 0 ≤ v ∧ v.natAbs < 2 ^ 1100000
def Bits (ns : List Int) : Prop := ns.length ≤ 63 ∧ ∀ z ∈ ns, z.natAbs < 2 ^ 1048576
theorem Pool.mono {ns : List Int} {c c' : Nat} {p : List D} (h : Pool ns c p) (l : c ≤ c') : Pool ns c' p := by
  obtain ⟨k, v, f, h1, h2, h3, h4, h5, h6, h7⟩ := h.ex
  exact ⟨k, v, f, h1, h2, by omega, h4, by omega, h6, h7⟩
theorem sm_of {x : Int} {n : Nat} (h : x.natAbs < 2 ^ n) : Sm x n := ⟨h⟩
theorem mixed_eq {a b : Int} {n m : Nat} [Sm a n] [Sm b m] (h : n + m < 10000000) : ∃ v, f_law_mixed [.d (.int a), .d (.int b)] = some (.int v, [.d (.int a), .d (.int b)]) ∧ 0 ≤ v ∧ v.natAbs < 2 ^ 1100000 := by
  have z : ∀ x y : Int, 0 ≤ x % 162259276829213363391578010288127 * 618970019642690137449562111 + y % 618970019642690137449562111 ∧ (x % 162259276829213363391578010288127 * 618970019642690137449562111 + y % 618970019642690137449562111).natAbs < 2 ^ 1100000 := fun x y => by
    have h1 := Int.emod_nonneg x (show (162259276829213363391578010288127 : Int) ≠ 0 by decide)
    have h2 := Int.emod_lt_of_pos x (show (0 : Int) < 162259276829213363391578010288127 by decide)
    have h3 := Int.emod_nonneg y (show (618970019642690137449562111 : Int) ≠ 0 by decide)
    have h4 := Int.emod_lt_of_pos y (show (0 : Int) < 618970019642690137449562111 by decide)
    refine ⟨by omega, Nat.lt_of_lt_of_le (m := 2 ^ 256) (by omega) (Nat.pow_le_pow_right (by decide) (by decide))⟩
  simp (disch := omega) [f_law_mixed, m_law_mixed]
  exact z _ _
theorem atI_map {ns : List Int} {i : Int} (h0 : 0 ≤ i) (h1 : i < ns.length) : ∃ z, z ∈ ns ∧ atI (ns.map PyData.int) i = some (.int z) := by
  have hl : i.toNat < ns.length := by omega
  refine ⟨ns[i.toNat], List.getElem_mem hl, ?_⟩
  have := atI_nat (xs := ns.map PyData.int) (j := i.toNat) (v := .int ns[i.toNat]) (by rw [List.getElem?_map, List.getElem?_eq_getElem hl]; rfl)
  rwa [Int.toNat_of_nonneg h0] at this
theorem rest_eq {ns : List Int} {k f : Int} (hb : Bits ns) (k0 : 0 ≤ k) (k1 : k < 2 ^ 60) (f0 : 0 ≤ f) (f1 : f < 2 ^ 60) :
    ∃ v, f_law_rest [.d (scr ns), .d (.int k), .d (.int f)] = some (.int v, [.d (scr ns), .d (.int k), .d (.int f)]) ∧ 0 ≤ v ∧ v.natAbs < 2 ^ 1100000 := by
  haveI : Sm k 60 := ⟨by omega⟩
  haveI : Sm f 60 := ⟨by omega⟩
  have p18 : (10 : Int) ^ 18 = 1000000000000000000 := by decide
  -- the number that the script gives
  obtain ⟨z, hz, e⟩ : ∃ z : Int, z.natAbs < 2 ^ 1048576 ∧ (pIf (tB (eOp2 aGtI (.e (eOp aLen [(.p 0)])) (.e (eK (.int 0))))) (pSet (.v 3) (eOp aInt [(.e (eOp2 aIx (.p 0) (.e (eOp2 aMod (.e (eOp aInt [(.p 1)])) (.e (eOp aLen [(.p 0)]))))))])) pSkip)
      [some (.d (scr ns)), some (.d (.int k)), some (.d (.int f)), some (.d (.int 0))] = some (.nx, [some (.d (scr ns)), some (.d (.int k)), some (.d (.int f)), some (.d (.int z))]) := by
    by_cases hl : ns.length = 0
    · refine ⟨0, by decide +kernel, ?_⟩
      have hl' : ns = [] := List.length_eq_zero_iff.mp hl
      subst hl'
      simp (disch := omega)
    · have h0 := Int.emod_nonneg k (show (ns.length : Int) ≠ 0 by omega)
      have h1 := Int.emod_lt_of_pos k (show (0 : Int) < ns.length by omega)
      obtain ⟨z, hz, e⟩ := atI_map h0 h1
      refine ⟨z, hb.2 z hz, ?_⟩
      have hp : 0 < ns.length := by omega
      simp (disch := omega) [e, hp]
  haveI : Sm z 1048576 := ⟨hz⟩
  -- made at least nought
  obtain ⟨y, hy0, hy, e2⟩ : ∃ y : Int, 0 ≤ y ∧ y.natAbs < 2 ^ 1048578 ∧ (pIf (tB (eOp2 aLtI (.p 3) (.e (eK (.int 0))))) (pSet (.v 3) (eOp2 aSub (.e (eK (.int 1))) (.e (eOp2 aMulI (.e (eK (.int 2))) (.p 3))))) pSkip)
      [some (.d (scr ns)), some (.d (.int k)), some (.d (.int f)), some (.d (.int z))] = some (.nx, [some (.d (scr ns)), some (.d (.int k)), some (.d (.int f)), some (.d (.int y))]) := by
    have q : (2 : Nat) ^ 1048578 = 4 * 2 ^ 1048576 := by rw [show 1048578 = 1048576 + 2 from rfl, Nat.pow_add]; omega
    by_cases h : z < 0
    · refine ⟨1 - 2 * z, by omega, by omega, ?_⟩
      simp (disch := omega) [h]
    · refine ⟨z, by omega, by omega, ?_⟩
      simp (disch := omega) [h]
  haveI : Sm y 1048578 := ⟨hy⟩
  obtain ⟨v, e3, v0, v1⟩ := mixed_eq (a := y + f * 1000003) (b := k) (by omega)
  by_cases hc : f = 0 ∧ k < ns.length ∧ 1000000000000000000 ≤ y
  · obtain ⟨rfl, h2, h3⟩ := hc
    refine ⟨y - 1000000000000000000, ?_, by omega, ?_⟩
    · show fnD 4 m_law_rest _ = _
      unfold m_law_rest
      rw [ev_fn]
      simp (disch := omega) [-ev_if, e, e2]
      simp (disch := omega) [h2, h3, p18]
    · exact Nat.lt_of_lt_of_le (m := 2 ^ 1048578) (by omega) (Nat.pow_le_pow_right (by decide) (by decide))
  · refine ⟨v, ?_, v0, v1⟩
    show fnD 4 m_law_rest _ = _
    unfold m_law_rest
    rw [ev_fn]
    simp (disch := omega) [-ev_if, e, e2]
    by_cases f0 : f = 0
    · subst f0
      by_cases k2 : k < ns.length
      · have h3 : ¬ (1000000000000000000 ≤ y) := fun q => hc ⟨rfl, k2, q⟩
        simp at e3
        simp (disch := omega) [k2, h3, e3, p18]
      · simp at e3
        simp (disch := omega) [k2, e3, p18]
    · simp (disch := omega) [f0, e3]
theorem pool_eq {ns : List Int} (hb : Bits ns) : ∃ p, f_law_pool [.d (scr ns)] = some (.list p, [.d (scr ns)]) ∧ Pool ns 0 p := by
  obtain ⟨v, e, v0, v1⟩ := rest_eq hb (k := 0) (f := 0) (by omega) (by omega) (by omega) (by omega)
  refine ⟨pl ns 0 v 0, ?_, 0, v, 0, rfl, by omega, by omega, by omega, by omega, v0, v1⟩
  simp (disch := omega) [f_law_pool, m_law_pool, e]
theorem next_eq {ns : List Int} {c : Nat} {p : List D} (hb : Bits ns) (hp : Pool ns c p) (hc : c < 2 ^ 59) : ∃ p', f_law_next [.l .rw p] = some (.none, [.l .rw p']) ∧ Pool ns (c + 1) p' := by
  obtain ⟨k, v, f, rfl, h2, h3, h4, h5, h6, h7⟩ := hp.ex
  obtain ⟨u, e, u0, u1⟩ := rest_eq hb (k := k + 1) (f := 0) (by omega) (by omega) (by omega) (by omega)
  refine ⟨pl ns (k + 1) u 0, ?_, k + 1, u, 0, rfl, by omega, by omega, by omega, by omega, u0, u1⟩
  simp [f_law_next, m_law_next, e, ixN]
theorem draw_eq {ns : List Int} {c : Nat} {p : List D} {l : Int} (hb : Bits ns) (hp : Pool ns c p) (hc : c < 2 ^ 59) (l0 : 0 < l) (l1 : l < 2 ^ 60) :
    ∃ r p', f_law_draw [.l .rw p, .d (.int l)] = some (.int r, [.l .rw p', .d (.int l)]) ∧ 0 ≤ r ∧ r < l ∧ Pool ns (c + 1) p' := by
  obtain ⟨k, v, f, rfl, h2, h3, h4, h5, h6, h7⟩ := hp.ex
  haveI : Sm l 60 := ⟨by omega⟩
  obtain ⟨u, e, u0, u1⟩ := rest_eq hb (k := k) (f := f + 1) (by omega) (by omega) (by omega) (by omega)
  have fin : ∀ v : Int, 0 ≤ v → v.natAbs < 2 ^ 1100000 → 0 ≤ v / l ∧ (v / l).natAbs < 2 ^ 1100000 := fun v a b =>
    ⟨Int.ediv_nonneg a (by omega), Nat.lt_of_le_of_lt (Int.natAbs_ediv_le_natAbs v l) b⟩
  by_cases hv : v ≤ 1
  · refine ⟨u % l, pl ns k (u / l) (f + 1), ?_, Int.emod_nonneg _ (by omega), Int.emod_lt_of_pos _ l0, k, u / l, f + 1, rfl, h2, by omega, by omega, by omega, (fin u u0 u1).1, (fin u u0 u1).2⟩
    simp (disch := omega) [f_law_draw, m_law_draw, e, ixN, hv]
  · refine ⟨v % l, pl ns k (v / l) f, ?_, Int.emod_nonneg _ (by omega), Int.emod_lt_of_pos _ l0, k, v / l, f, rfl, h2, by omega, by omega, by omega, (fin v h6 h7).1, (fin v h6 h7).2⟩
    simp (disch := omega) [f_law_draw, m_law_draw, ixN, hv]
end G
/-! A pick from the pool. -/
namespace G
open PySem L2 DL
theorem pick_eq {ns : List Int} {c : Nat} {p opts : List D} (hb : Bits ns) (hp : Pool ns c p) (hc : c < 2 ^ 59) (l0 : 0 < opts.length) (l1 : opts.length < 1000) :
    ∃ d p', f_law_pick [.l .rw p, .d (.list opts)] = some (d, [.l .rw p', .d (.list opts)]) ∧ d ∈ opts ∧ Pool ns (c + 1) p' := by
  obtain ⟨r, p', e, r0, r1, hp'⟩ := draw_eq hb hp hc (l := opts.length) (by omega) (by omega)
  have hr : r.toNat < opts.length := by omega
  have e2 : atI opts r = some opts[r.toNat] := by
    have := atI_nat (xs := opts) (j := r.toNat) (v := opts[r.toNat]) (List.getElem?_eq_getElem hr)
    rwa [Int.toNat_of_nonneg r0] at this
  refine ⟨opts[r.toNat], p', ?_, List.getElem_mem hr, hp'⟩
  simp (disch := omega) [f_law_pick, m_law_pick, e, e2]
end G
/-! The script handed in. -/
namespace DL
open PySem L2
theorem reps_of_ints {κ : Kx} {F : Hp} : ∀ ns : List Int, Reps κ F (ns.map V.int) (ns.map PyData.int)
  | [] => .nil
  | n :: ns => .cons (.int n) (reps_of_ints ns)
theorem sp_script {κ : Kx} {f : Fn} {H : Hp} {a : Addr} {ns : List Int} (hS : SqL κ.K H a (ns.map V.int)) (h : ∃ r, f [.d (.dict [(.none, .list (ns.map .int))])] = some (.bool true, r)) :
    spD κ f 1 [.ref a] H (fun v _ => v = .bl true) fun _ _ _ => False := by
  obtain ⟨r, h⟩ := h
  refine ⟨[.d (.dict [(.none, .list (ns.map .int))])], H, fun _ => 0, .bool true, r, rfl, rfl, ⟨rfl, Sub.refl H, fun i s e => ?_, fun i j s t e1 e2 o1 o2 _ => ?_⟩, rfl, h, fun v H' F' _ _ _ rv => ?_⟩
  · cases i with
    | zero =>
      cases e
      exact ⟨.ref a, rfl, .scr hS (reps_of_ints ns)⟩
    | succ i => simp at e
  · cases i with
    | zero => cases e1; cases o1
    | succ i => simp at e1
  · cases rv
    rfl
end DL
namespace G
open PySem L2
theorem bits_of {ns : List Int} (h1 : ns.length ≤ 63) (h2 : ∀ z ∈ ns, Builtin.Int.intBits z ≤ 1048576) : Bits ns := by
  refine ⟨h1, fun z hz => ?_⟩
  have h := h2 z hz
  unfold Builtin.Int.intBits at h
  by_cases e : z = 0
  · subst e; exact Nat.pow_pos (by decide)
  · have q : z.natAbs ≠ 0 := by omega
    rw [if_neg (by simpa using e)] at h
    exact (Nat.log2_lt q).mp (by omega)
end G
/-! Answers that are compared with themselves (the second make of _law_same). -/
namespace G
open PySem L2 DL
/-- plain data, so many deep -/
def Pl : Nat → D → Prop
  | _, .none => True
  | _, .bool _ => True
  | _, .int _ => True
  | _, .str s => SeqAt.shaped (.str s) = true
  | 0, _ => False
  | n + 1, .list xs => xs.length ≤ 1000000 ∧ ∀ x ∈ xs, Pl n x
  | n + 1, .tuple xs => xs.length ≤ 1000000 ∧ ∀ x ∈ xs, Pl n x
  | _, .dict _ => False
theorem same_self : ∀ (n : Nat) (d : D), Pl n d → f_law_same (n + 1) [.d d, .d d] = some (.bool true, [.d d, .d d]) := by
  intro n
  induction n with
  | zero =>
    intro d h
    show fnD 4 (m_law_same (f_law_same 0)) _ = _
    generalize f_law_same 0 = F at *
    cases d with
    | none => simp [m_law_same, aIsi, isiD, tyNm, isiTys, scrD, isFlagD, isNoneD]
    | bool b => cases b <;> simp [m_law_same, aIsi, isiD, tyNm, isiTys, scrD, isFlagD, isNoneD]
    | int i => simp [m_law_same, aIsi, isiD, tyNm, isiTys, scrD, isFlagD, isNoneD]
    | str s =>
      have e : aEq (.str s) (.str s) = some (.bool true) := by
        unfold aEq
        rw [if_pos ⟨h, h⟩, SeqAt.eqv_refl _ (SeqAt.canLay_of_shaped h)]
      simp [m_law_same, aIsi, isiD, tyNm, isiTys, scrD, isFlagD, isNoneD, e]
    | _ => exact h.elim
  | succ n ih =>
    intro d h
    have hc : ∀ (k : Bool) (xs : List D), xs.length ≤ 1000000 → (∀ x ∈ xs, Pl n x) → ∀ (x0 : D), (x0 = .list xs ∨ x0 = .tuple xs) → eComp (iOp rng1 [(.e (eOp aLen [(.p 1)]))]) (.v 3) [3] tTrue (c_law_same_1 (f_law_same (n + 1))) [some (.d x0), some (.d x0), none, none] = some (.list ((List.range xs.length).map fun _ => .bool true), [some (.d x0), some (.d x0), none, none]) := by
      intro _ xs hl hx x0 h0
      refine comp_map (l := List.range xs.length) (g := fun i : Nat => .int ((0 : Int) + i)) (f := fun _ => .bool true) ?_ (by simp) rfl (by rw [List.length_range]; exact Nat.le_trans hl sizeLine_big) (fun i hi => ?_)
      · rw [← upTo_map]
        rcases h0 with rfl | rfl <;> simp (disch := omega)
      · have hi := List.mem_range.mp hi
        have e1 : atI xs (i : Int) = some xs[i] := atI_nat (List.getElem?_eq_getElem hi)
        have e2 := ih xs[i] (hx _ (List.getElem_mem hi))
        generalize f_law_same (n + 1) = F at *
        rw [Int.zero_add]
        rcases h0 with rfl | rfl <;> simp [c_law_same_1, e1, e2]
    have ha : ∀ xs : List D, aAll [.list ((List.range xs.length).map fun _ => PyData.bool true)] = some (.bool true) := fun xs => by
      have : ((List.range xs.length).map fun _ => PyData.bool true) = ((List.range xs.length).map fun _ => true).map PyData.bool := by rw [List.map_map]; rfl
      rw [this, ev_all]
      congr 2
      simp
    show fnD 4 (m_law_same (f_law_same (n + 1))) _ = _
    cases d with
    | none => simp [m_law_same, aIsi, isiD, tyNm, isiTys, scrD, isFlagD, isNoneD]
    | bool b => cases b <;> simp [m_law_same, aIsi, isiD, tyNm, isiTys, scrD, isFlagD, isNoneD]
    | int i => simp [m_law_same, aIsi, isiD, tyNm, isiTys, scrD, isFlagD, isNoneD]
    | str s =>
      have e : aEq (.str s) (.str s) = some (.bool true) := by
        unfold aEq
        rw [if_pos ⟨h, h⟩, SeqAt.eqv_refl _ (SeqAt.canLay_of_shaped h)]
      simp [m_law_same, aIsi, isiD, tyNm, isiTys, scrD, isFlagD, isNoneD, e]
    | list xs =>
      have q := hc true xs h.1 h.2 _ (.inl rfl)
      have qa := ha xs
      generalize (List.range xs.length).map (fun _ => PyData.bool true) = L at *
      generalize f_law_same (n + 1) = F at *
      simp [m_law_same, aIsi, isiD, tyNm, isiTys, scrD, isFlagD, isNoneD, q, qa]
    | tuple xs =>
      have q := hc true xs h.1 h.2 _ (.inr rfl)
      have qa := ha xs
      generalize (List.range xs.length).map (fun _ => PyData.bool true) = L at *
      generalize f_law_same (n + 1) = F at *
      simp [m_law_same, aIsi, isiD, tyNm, isiTys, scrD, isFlagD, isNoneD, q, qa]
    | dict _ => exact h.elim
end G
/-! Comprehensions that draw from the pool. -/
namespace G
open PySem L2 DL
/-- one number drawn for each item -/
theorem draws {ns : List Int} {i : Nat} {m : DL.E} {R : D → Int → Prop} {K : Nat} (Gf : List D → Option DL.S → DL.Env) (step : ∀ (cc : Nat) (p : List D) (d : D), Pool ns cc p → cc < 2 ^ 50 → (∃ v, R d v) → ∃ v p', m (Gf p (some (.d d))) = some (.int v, Gf p' (some (.d d))) ∧ R d v ∧ Pool ns (cc + K) p')
    (hb : ∀ p d, bindPat (.v i) d (Gf p none) = some (Gf p (some (.d d)))) (hc : ∀ p x, clear [i] (Gf p x) = Gf p none) :
    ∀ (ds acc : List D) (cc : Nat) (p : List D), Pool ns cc p → cc + K * ds.length < 2 ^ 50 → acc.length + ds.length ≤ 100000 → (∀ d ∈ ds, ∃ v, R d v) →
      ∃ (t : List Int) (p' : List D), Paired R ds t ∧ Pool ns (cc + K * ds.length) p' ∧ compL (.v i) [i] tTrue m ds acc (Gf p none) = some (.list (acc ++ t.map .int), Gf p' none)
  | [], acc, cc, p, hp, _, _, _ => ⟨[], p, .nil, hp.mono (by omega), by simp⟩
  | d :: ds, acc, cc, p, hp, hcc, hl, hR => by
    rw [List.length_cons] at hcc hl
    rw [Nat.mul_add] at hcc
    obtain ⟨v, p1, e1, hv, hp1⟩ := step cc p d hp (by omega) (hR d List.mem_cons_self)
    obtain ⟨t, p2, h1, h2, h3⟩ := draws Gf step hb hc ds (acc ++ [.int v]) (cc + K) p1 hp1 (by omega) (by rw [List.length_append]; simp; omega) fun x hx => hR x (List.mem_cons_of_mem _ hx)
    refine ⟨v :: t, p2, .cons hv h1, h2.mono (by rw [List.length_cons, Nat.mul_add]; omega), ?_⟩
    have hz : acc.length < sizeLine := Nat.lt_of_lt_of_le (show acc.length < 1000000 by omega) sizeLine_big
    rw [ev_compL1, hb, Option.bind_some, ev_tTrue, Option.bind_some, if_pos rfl, e1, Option.bind_some, if_pos hz]
    show compL _ _ _ _ ds (acc ++ [.int v]) (clear [i] (Gf p1 (some (.d d)))) = _
    rw [hc, h3]
    simp
theorem paired_len {α β : Type} {R : α → β → Prop} {l : List α} {r : List β} (h : Paired R l r) : l.length = r.length := (paired_at h).1
theorem paired_all {α β : Type} {R : α → β → Prop} {Q : β → Prop} (hq : ∀ a b, R a b → Q b) : ∀ {l : List α} {r : List β}, Paired R l r → ∀ b ∈ r, Q b
  | _, _, .nil, b, h => by cases h
  | _, _, .cons h1 h2, b, h => by
    rcases List.mem_cons.mp h with rfl | h
    · exact hq _ _ h1
    · exact paired_all hq h2 b h
end G
/-! Ends of a text in order: common beginnings. Texts are lists of letters. -/
namespace Pc
/-- the order of texts -/
def lt : List Nat → List Nat → Bool
  | [], [] => false
  | [], _ :: _ => true
  | _ :: _, [] => false
  | x :: a, y :: b => decide (x < y) || (decide (x = y) && lt a b)
/-- how many letters begin both -/
def lcp : List Nat → List Nat → Nat
  | x :: a, y :: b => if x = y then lcp a b + 1 else 0
  | _, _ => 0
theorem lt_irrefl : ∀ a : List Nat, lt a a = false
  | [] => rfl
  | x :: a => by simp [lt, lt_irrefl a]
theorem lt_trans : ∀ {a b c : List Nat}, lt a b = true → lt b c = true → lt a c = true
  | [], [], c, h, _ => by cases h
  | [], _ :: _, [], _, h => by simp [lt] at h
  | [], _ :: _, _ :: _, _, _ => rfl
  | _ :: _, [], c, h, _ => by simp [lt] at h
  | _ :: _, _ :: _, [], _, h => by simp [lt] at h
  | x :: a, y :: b, z :: c, h1, h2 => by
    simp only [lt, Bool.or_eq_true, Bool.and_eq_true, decide_eq_true_eq] at h1 h2 ⊢
    rcases h1 with h1 | ⟨h1, q1⟩
    · rcases h2 with h2 | ⟨h2, _⟩
      · exact .inl (by omega)
      · exact .inl (by omega)
    · rcases h2 with h2 | ⟨h2, q2⟩
      · exact .inl (by omega)
      · exact .inr ⟨by omega, lt_trans q1 q2⟩
theorem lcp_comm : ∀ a b : List Nat, lcp a b = lcp b a
  | [], [] => rfl
  | [], _ :: _ => rfl
  | _ :: _, [] => rfl
  | x :: a, y :: b => by
    simp only [lcp]
    by_cases h : x = y
    · rw [if_pos h, if_pos h.symm, lcp_comm a b]
    · rw [if_neg h, if_neg fun q => h q.symm]
theorem lcp_le_l : ∀ a b : List Nat, lcp a b ≤ a.length
  | [], b => by cases b <;> simp [lcp]
  | _ :: _, [] => by simp [lcp]
  | x :: a, y :: b => by
    simp only [lcp, List.length_cons]
    split
    · have := lcp_le_l a b; omega
    · omega
/-- in order, the outer two share no more than each with the middle one -/
theorem lcp_mid : ∀ {a b c : List Nat}, lt a b = true → lt b c = true → lcp a c ≤ lcp a b ∧ lcp a c ≤ lcp b c
  | [], b, c, _, _ => by cases c <;> simp [lcp]
  | _ :: _, [], c, h, _ => by simp [lt] at h
  | _ :: _, _ :: _, [], _, h => by simp [lt] at h
  | x :: a, y :: b, z :: c, h1, h2 => by
    simp only [lt, Bool.or_eq_true, Bool.and_eq_true, decide_eq_true_eq] at h1 h2
    simp only [lcp]
    by_cases hxz : x = z
    · have hxy : x = y := by
        rcases h1 with h1 | ⟨h1, _⟩ <;> rcases h2 with h2 | ⟨h2, _⟩ <;> omega
      have hyz : y = z := by omega
      have q1 : lt a b = true := by
        rcases h1 with h1 | ⟨_, h1⟩
        · omega
        · exact h1
      have q2 : lt b c = true := by
        rcases h2 with h2 | ⟨_, h2⟩
        · omega
        · exact h2
      have := lcp_mid q1 q2
      rw [if_pos hxz, if_pos hxy, if_pos hyz]
      omega
    · rw [if_neg hxz]
      omega
/-- a piece begins both just as far as they share -/
theorem take_lcp : ∀ (a b : List Nat) (k : Nat), k ≤ a.length → (a.take k = b.take k ↔ k ≤ lcp a b)
  | a, b, 0, _ => by simp
  | [], b, k + 1, h => by simp at h
  | x :: a, [], k + 1, _ => by simp [lcp]
  | x :: a, y :: b, k + 1, h => by
    simp only [List.take_succ_cons, List.cons.injEq, lcp]
    by_cases e : x = y
    · rw [if_pos e]
      have := take_lcp a b k (by simpa using h)
      constructor
      · intro q; have := this.mp q.2; omega
      · intro q; exact ⟨e, this.mpr (by omega)⟩
    · rw [if_neg e]
      constructor
      · intro q; exact absurd q.1 e
      · intro q; omega
end Pc
/-! How many different beginnings texts in order have. -/
namespace Pc
/-- the beginnings of s longer than what it shares with p -/
def news (p s : List Nat) : List (List Nat) := (List.range (s.length - lcp p s)).map fun i => s.take (lcp p s + 1 + i)
def canon : List Nat → List (List Nat) → List (List Nat)
  | _, [] => []
  | p, s :: E => news p s ++ canon s E
/-- each before all that follow -/
def Up : List Nat → List (List Nat) → Prop
  | _, [] => True
  | p, s :: E => lt p s = true ∧ Up s E
theorem Up.all : ∀ {p : List Nat} {E : List (List Nat)}, Up p E → ∀ t ∈ E, lt p t = true
  | _, [], _, t, h => by cases h
  | p, s :: E, u, t, h => by
    rcases List.mem_cons.mp h with rfl | h
    · exact u.1
    · exact lt_trans u.1 (u.2.all t h)
def Pre (w s : List Nat) : Prop := w.length ≤ s.length ∧ s.take w.length = w
theorem pre_lcp {w s p : List Nat} (h : Pre w s) : Pre w p ↔ w.length ≤ lcp p s := by
  constructor
  · intro h2
    have := (take_lcp p s w.length h2.1).mp (h2.2.trans h.2.symm)
    exact this
  · intro h2
    have hl := lcp_le_l p s
    exact ⟨by omega, ((take_lcp p s w.length (by omega)).mpr h2).trans h.2⟩
theorem mem_news {p s w : List Nat} : w ∈ news p s ↔ w ≠ [] ∧ Pre w s ∧ ¬ Pre w p := by
  unfold news
  rw [List.mem_map]
  constructor
  · rintro ⟨i, hi, rfl⟩
    have hi := List.mem_range.mp hi
    have hl : (s.take (lcp p s + 1 + i)).length = lcp p s + 1 + i := by rw [List.length_take]; omega
    have hp : Pre (s.take (lcp p s + 1 + i)) s := ⟨by omega, by rw [hl]⟩
    refine ⟨fun e => ?_, hp, fun q => ?_⟩
    · rw [e] at hl; simp at hl; omega
    · have := (pre_lcp hp).mp q; omega
  · rintro ⟨h0, h1, h2⟩
    have h3 : ¬ w.length ≤ lcp p s := fun q => h2 ((pre_lcp h1).mpr q)
    refine ⟨w.length - (lcp p s + 1), List.mem_range.mpr (by have := h1.1; omega), ?_⟩
    rw [show lcp p s + 1 + (w.length - (lcp p s + 1)) = w.length by omega]
    exact h1.2
theorem mem_canon {w : List Nat} : ∀ {p : List Nat} {E : List (List Nat)}, Up p E → (w ∈ canon p E ↔ w ≠ [] ∧ (∃ s ∈ E, Pre w s) ∧ ¬ Pre w p)
  | p, [], _ => by simp [canon]
  | p, s :: E, u => by
    unfold canon
    rw [List.mem_append, mem_news, mem_canon u.2]
    constructor
    · rintro (⟨h0, h1, h2⟩ | ⟨h0, ⟨t, ht, h1⟩, h2⟩)
      · exact ⟨h0, ⟨s, List.mem_cons_self, h1⟩, h2⟩
      · refine ⟨h0, ⟨t, List.mem_cons_of_mem _ ht, h1⟩, fun q => h2 ?_⟩
        have a1 := (pre_lcp h1).mp q
        have a2 := (lcp_mid u.1 (u.2.all t ht)).2
        exact (pre_lcp h1).mpr (by omega)
    · rintro ⟨h0, ⟨t, ht, h1⟩, h2⟩
      by_cases hs : Pre w s
      · exact .inl ⟨h0, hs, h2⟩
      · rcases List.mem_cons.mp ht with rfl | ht
        · exact absurd h1 hs
        · exact .inr ⟨h0, ⟨t, ht, h1⟩, hs⟩
theorem news_nodup (p s : List Nat) : (news p s).Nodup := by
  unfold news
  rw [List.nodup_iff_pairwise_ne, List.pairwise_map]
  refine List.Pairwise.imp_of_mem ?_ (List.nodup_iff_pairwise_ne.mp List.nodup_range)
  intro i j hi hj hne e
  have hi := List.mem_range.mp hi
  have hj := List.mem_range.mp hj
  have := congrArg List.length e
  rw [List.length_take, List.length_take] at this
  omega
theorem canon_nodup : ∀ {p : List Nat} {E : List (List Nat)}, Up p E → (canon p E).Nodup
  | p, [], _ => by simp [canon]
  | p, s :: E, u => by
    unfold canon
    rw [List.nodup_append]
    refine ⟨news_nodup p s, canon_nodup u.2, fun a ha b hb e => ?_⟩
    subst e
    exact ((mem_canon u.2).mp hb).2.2 (mem_news.mp ha).2.1
def total : List (List Nat) → Nat
  | [] => 0
  | s :: E => s.length + total E
def sharedSum : List Nat → List (List Nat) → Nat
  | _, [] => 0
  | p, s :: E => lcp p s + sharedSum s E
theorem lcp_le_r (a b : List Nat) : lcp a b ≤ b.length := by rw [lcp_comm]; exact lcp_le_l b a
theorem canon_length : ∀ (p : List Nat) (E : List (List Nat)), (canon p E).length + sharedSum p E = total E
  | p, [] => rfl
  | p, s :: E => by
    have := canon_length s E
    have h := lcp_le_r p s
    show (news p s ++ canon s E).length + (lcp p s + sharedSum s E) = s.length + total E
    rw [List.length_append]
    unfold news
    rw [List.length_map, List.length_range]
    omega
end Pc
/-! Lists with the same members; neighbours that share a piece. -/
namespace Pc
theorem nodup_le {α : Type} [DecidableEq α] : ∀ {l m : List α}, l.Nodup → (∀ x ∈ l, x ∈ m) → l.length ≤ m.length
  | [], m, _, _ => Nat.zero_le _
  | x :: l, m, h, hs => by
    have h := List.nodup_cons.mp h
    have hx := hs x List.mem_cons_self
    have := nodup_le (m := m.erase x) h.2 fun y hy => (List.mem_erase_of_ne (fun e : y = x => h.1 (e ▸ hy))).mpr (hs y (List.mem_cons_of_mem _ hy))
    rw [List.length_erase_of_mem hx] at this
    have hp := List.length_pos_of_mem hx
    rw [List.length_cons]
    omega
theorem nodup_len {α : Type} [DecidableEq α] {l m : List α} (hl : l.Nodup) (hm : m.Nodup) (h : ∀ x, x ∈ l ↔ x ∈ m) : l.length = m.length :=
  Nat.le_antisymm (nodup_le hl fun x hx => (h x).mp hx) (nodup_le hm fun x hx => (h x).mpr hx)
/-- what two of them share, some two neighbours from the first to the second share -/
theorem neigh : ∀ {p : List Nat} {E : List (List Nat)} {t : List Nat}, Up p E → t ∈ E → ∃ s E', E = s :: E' ∧ lcp p t ≤ lcp p s
  | p, [], t, _, h => by cases h
  | p, s :: E, t, u, h => by
    refine ⟨s, E, rfl, ?_⟩
    rcases List.mem_cons.mp h with rfl | h
    · exact Nat.le_refl _
    · exact (lcp_mid u.1 (u.2.all t h)).1
/-- a list of texts in order, each with its place -/
theorem up_get : ∀ {p : List Nat} {E : List (List Nat)} {i j : Nat} {s t : List Nat}, Up p E → E[i]? = some s → E[j]? = some t → i < j → lt s t = true
  | p, [], i, j, s, t, _, h, _, _ => by simp at h
  | p, x :: E, 0, j + 1, s, t, u, h, h2, _ => by
    simp at h h2
    subst h
    exact u.2.all t (List.mem_of_getElem? h2)
  | p, x :: E, i + 1, j + 1, s, t, u, h, h2, hij => by
    simp at h h2
    exact up_get u.2 h h2 (by omega)
  | p, x :: E, i, 0, s, t, u, h, h2, hij => by omega
end Pc
/-! Pieces in order: the bounds of a run. -/
namespace Pc
theorem tri : ∀ a b : List Nat, lt a b = true ∨ a = b ∨ lt b a = true
  | [], [] => .inr (.inl rfl)
  | [], _ :: _ => .inl rfl
  | _ :: _, [] => .inr (.inr rfl)
  | x :: a, y :: b => by
    simp only [lt, Bool.or_eq_true, Bool.and_eq_true, decide_eq_true_eq, List.cons.injEq]
    rcases Nat.lt_trichotomy x y with h | h | h
    · exact .inl (.inl h)
    · rcases tri a b with q | q | q
      · exact .inl (.inr ⟨h, q⟩)
      · exact .inr (.inl ⟨h, q⟩)
      · exact .inr (.inr (.inr ⟨h.symm, q⟩))
    · exact .inr (.inr (.inl h))
theorem not_lt_trans {a b c : List Nat} (h : lt b a = false) (h2 : lt b c = true) : lt a c = true := by
  rcases tri a b with q | q | q
  · exact lt_trans q h2
  · rw [q]; exact h2
  · rw [q] at h; cases h
theorem lt_asymm {a b : List Nat} (h : lt a b = true) : lt b a = false := by
  cases q : lt b a with
  | false => rfl
  | true =>
    have := lt_trans h q
    rw [lt_irrefl] at this
    cases this
/-- beginnings of so many letters stand in order, too, maybe alike -/
theorem take_mono : ∀ {a b : List Nat} (k : Nat), lt a b = true → lt (b.take k) (a.take k) = false
  | a, b, 0, _ => by simp [lt]
  | [], [], k + 1, h => by simp [lt] at h
  | [], y :: b, k + 1, _ => by simp [lt]
  | x :: a, [], k + 1, h => by simp [lt] at h
  | x :: a, y :: b, k + 1, h => by
    simp only [lt, Bool.or_eq_true, Bool.and_eq_true, decide_eq_true_eq] at h
    simp only [List.take_succ_cons, lt, Bool.or_eq_false_iff, Bool.and_eq_false_iff, decide_eq_false_iff_not]
    rcases h with h | ⟨h, q⟩
    · exact ⟨by omega, .inl (by omega)⟩
    · exact ⟨by omega, .inr (take_mono k q)⟩
/-- halving: P holds up to some index, not from there on -/
def halve (P : Nat → Bool) : Nat → Nat → Nat → Nat
  | 0, low, _ => low
  | n + 1, low, high => if low < high then
      let half := (low + high) / 2
      if P half = true then halve P n (half + 1) high else halve P n low half
    else low
theorem halve_ok {P : Nat → Bool} {N : Nat} (mono : ∀ i j, i < j → j < N → P i = false → P j = false) : ∀ (n low high : Nat), high - low ≤ n → low ≤ high → high ≤ N → (∀ i, i < low → P i = true) → (∀ i, high ≤ i → i < N → P i = false) →
    ∃ r, halve P n low high = r ∧ low ≤ r ∧ r ≤ high ∧ (∀ i, i < r → P i = true) ∧ ∀ i, r ≤ i → i < N → P i = false
  | 0, low, high, hn, hl, hN, h1, h2 => ⟨low, rfl, Nat.le_refl _, hl, h1, fun i hi hi2 => h2 i (by omega) hi2⟩
  | n + 1, low, high, hn, hl, hN, h1, h2 => by
    unfold halve
    by_cases h : low < high
    · rw [if_pos h]
      show ∃ r, (if P ((low + high) / 2) = true then _ else _) = r ∧ _
      by_cases hp : P ((low + high) / 2) = true
      · rw [if_pos hp]
        obtain ⟨r, e, r1, r2, r3, r4⟩ := halve_ok mono n ((low + high) / 2 + 1) high (by omega) (by omega) hN (fun i hi => by
          by_cases q : i = (low + high) / 2
          · rw [q]; exact hp
          · cases e : P i with
            | true => rfl
            | false =>
              have := mono i ((low + high) / 2) (by omega) (by omega) e
              rw [hp] at this; cases this) h2
        exact ⟨r, e, by omega, r2, r3, r4⟩
      · rw [if_neg hp]
        have hp' : P ((low + high) / 2) = false := by simpa using hp
        obtain ⟨r, e, r1, r2, r3, r4⟩ := halve_ok mono n low ((low + high) / 2) (by omega) (by omega) (by omega) h1 (fun i hi hi2 => by
          by_cases q : i = (low + high) / 2
          · rw [q]; exact hp'
          · exact mono _ i (by omega) hi2 hp')
        exact ⟨r, e, r1, by omega, r3, r4⟩
    · rw [if_neg h]
      exact ⟨low, rfl, Nat.le_refl _, hl, h1, fun i hi hi2 => h2 i (by omega) hi2⟩
end Pc
/-! Pieces of a text: how many, and which stand at two places. -/
namespace Pc
theorem sharedSum_eq : ∀ (s : List Nat) (E : List (List Nat)), sharedSum s E = ((List.range E.length).map fun i => lcp ((s :: E).getD i []) (E.getD i [])).sum
  | s, [] => rfl
  | s, t :: E => by
    show lcp s t + sharedSum t E = _
    rw [sharedSum_eq t E, List.length_cons, List.range_succ_eq_map, List.map_cons, List.map_map, List.sum_cons]
    rfl
theorem up_of {p : List Nat} : ∀ {E : List (List Nat)}, (∀ s ∈ E, lt p s = true) → E.Pairwise (fun a b => lt a b = true) → Up p E
  | [], _, _ => trivial
  | s :: E, h, q => by
    have q := List.pairwise_cons.mp q
    exact ⟨h s List.mem_cons_self, up_of q.1 q.2⟩
theorem lt_nil {s : List Nat} (h : s ≠ []) : lt [] s = true := by
  cases s with
  | nil => exact absurd rfl h
  | cons _ _ => rfl
theorem pre_nil {w : List Nat} : Pre w [] ↔ w = [] := by
  constructor
  · intro h; exact List.eq_nil_of_length_eq_zero (by have := h.1; simpa using this)
  · rintro rfl; exact ⟨Nat.le_refl _, rfl⟩
theorem total_perm {E F : List (List Nat)} (h : E.Perm F) : total E = total F := by
  induction h with
  | nil => rfl
  | cons x _ ih => show _ + total _ = _ + total _; rw [ih]
  | swap x y l => show _ + (_ + total _) = _ + (_ + total _); omega
  | trans _ _ h1 h2 => exact h1.trans h2
theorem total_append (E F : List (List Nat)) : total (E ++ F) = total E + total F := by
  induction E with
  | nil => simp [total]
  | cons x E ih => show _ + total (E ++ F) = _ + total E + total F; rw [ih]; omega
theorem total_ends (l : List Nat) : ∀ m, m ≤ l.length → 2 * total ((List.range m).map fun i => l.drop i) + m * m = m * (2 * l.length + 1)
  | 0, _ => by simp [total]
  | m + 1, h => by
    have := total_ends l m (by omega)
    rw [List.range_succ, List.map_append, total_append]
    show 2 * (total _ + ((l.drop m).length + 0)) + _ = _
    rw [List.length_drop]
    rw [Nat.mul_add, Nat.mul_add (m + 1)]
    have e1 : (m + 1) * (2 * l.length + 1) = m * (2 * l.length + 1) + 2 * l.length + 1 := by rw [Nat.succ_mul]; omega
    have e2 : (m + 1) * m + (m + 1) * 1 = m * m + 2 * m + 1 := by rw [Nat.succ_mul]; omega
    omega
/-- two of many -/
theorem two_of {P : Nat → Bool} {n : Nat} : 2 ≤ ((List.range n).filter P).length ↔ ∃ a b, a < b ∧ b < n ∧ P a = true ∧ P b = true := by
  constructor
  · intro h
    have hp : ((List.range n).filter P).Pairwise (· < ·) := List.Pairwise.filter _ List.pairwise_lt_range
    match hf : (List.range n).filter P with
    | [] => rw [hf] at h; simp at h
    | [_] => rw [hf] at h; simp at h
    | a :: b :: r =>
      rw [hf] at hp
      have ha : a ∈ (List.range n).filter P := by rw [hf]; simp
      have hb : b ∈ (List.range n).filter P := by rw [hf]; simp
      rw [List.mem_filter, List.mem_range] at ha hb
      exact ⟨a, b, (List.pairwise_cons.mp hp).1 b (by simp), hb.1, ha.2, hb.2⟩
  · rintro ⟨a, b, hab, hb, pa, pb⟩
    have hs : [a, b].Sublist ((List.range n).filter P) := by
      have h1 : ([a, b].filter P).Sublist ((List.range n).filter P) := by
        refine List.Sublist.filter P ?_
        have : (List.range n) = List.range (a + 1) ++ (List.range (n - (a + 1))).map (a + 1 + ·) := by
          rw [← List.range_add]; congr 1; omega
        rw [this, List.range_succ, List.append_assoc]
        refine List.Sublist.trans ?_ (List.sublist_append_right _ _)
        show [a, b].Sublist (a :: (List.range (n - (a + 1))).map (a + 1 + ·))
        refine List.Sublist.cons_cons a ?_
        rw [List.singleton_sublist, List.mem_map]
        exact ⟨b - (a + 1), List.mem_range.mpr (by omega), by omega⟩
      have h2 : [a, b].filter P = [a, b] := by simp [pa, pb]
      rw [h2] at h1
      exact h1
    have := hs.length_le
    simpa using this
end Pc
/-! Pieces of a text: counts, by places and by the order of ends. -/
namespace Pc
instance (w s : List Nat) : Decidable (Pre w s) := inferInstanceAs (Decidable (_ ∧ _))
/-- the beginnings of the end at i, so many -/
def rowk (l : List Nat) (i k : Nat) : List (List Nat) := (List.range k).map fun t => (l.drop i).take (t + 1)
def allp (l : List Nat) : Nat → List (List Nat)
  | 0 => []
  | i + 1 => allp l i ++ rowk l i (l.length - i)
theorem mem_rowk {l w : List Nat} {i : Nat} : w ∈ rowk l i (l.length - i) ↔ w ≠ [] ∧ Pre w (l.drop i) := by
  unfold rowk
  rw [List.mem_map]
  constructor
  · rintro ⟨t, ht, rfl⟩
    have ht := List.mem_range.mp ht
    have hl : ((l.drop i).take (t + 1)).length = t + 1 := by rw [List.length_take, List.length_drop]; omega
    exact ⟨fun e => by rw [e] at hl; simp at hl, by rw [hl, List.length_drop]; omega, by rw [hl]⟩
  · rintro ⟨h0, h1, h2⟩
    have : w.length ≠ 0 := fun e => h0 (List.eq_nil_of_length_eq_zero e)
    rw [List.length_drop] at h1
    exact ⟨w.length - 1, List.mem_range.mpr (by omega), by rw [show w.length - 1 + 1 = w.length by omega]; exact h2⟩
theorem rowk_nodup (l : List Nat) (i : Nat) : (rowk l i (l.length - i)).Nodup := by
  unfold rowk
  rw [List.nodup_iff_pairwise_ne, List.pairwise_map]
  refine List.Pairwise.imp_of_mem ?_ (List.nodup_iff_pairwise_ne.mp List.nodup_range)
  intro a b ha hb hne e
  have ha := List.mem_range.mp ha
  have hb := List.mem_range.mp hb
  have := congrArg List.length e
  rw [List.length_take, List.length_take, List.length_drop] at this
  omega
theorem mem_allp {l w : List Nat} : ∀ {m : Nat}, w ∈ allp l m ↔ w ≠ [] ∧ ∃ i, i < m ∧ Pre w (l.drop i)
  | 0 => by simp [allp]
  | m + 1 => by
    unfold allp
    rw [List.mem_append, mem_allp, mem_rowk]
    constructor
    · rintro (⟨h0, i, hi, h⟩ | ⟨h0, h⟩)
      · exact ⟨h0, i, by omega, h⟩
      · exact ⟨h0, m, by omega, h⟩
    · rintro ⟨h0, i, hi, h⟩
      by_cases e : i = m
      · exact .inr ⟨h0, e ▸ h⟩
      · exact .inl ⟨h0, i, by omega, h⟩
theorem count_allp {l w : List Nat} (h0 : w ≠ []) : ∀ m, (allp l m).count w = ((List.range m).filter fun i => decide (Pre w (l.drop i))).length
  | 0 => rfl
  | m + 1 => by
    unfold allp
    rw [List.count_append, count_allp h0 m, (rowk_nodup l m).count, List.range_succ, List.filter_append, List.length_append]
    congr 1
    by_cases h : Pre w (l.drop m)
    · rw [if_pos (mem_rowk.mpr ⟨h0, h⟩)]; simp [h]
    · rw [if_neg fun z => h (mem_rowk.mp z).2]; simp [h]
/-- an order of the ends -/
structure Ord (l o : List Nat) : Prop where
  perm : o.Perm (List.range l.length)
  lt : o.Pairwise fun i j => Pc.lt (l.drop i) (l.drop j) = true
abbrev en (l o : List Nat) (k : Nat) : List Nat := l.drop (o.getD k 0)
section
variable {l o : List Nat} (h : Ord l o)
include h
theorem Ord.len : o.length = l.length := by rw [h.perm.length_eq, List.length_range]
theorem Ord.get {k : Nat} (hk : k < l.length) : o.getD k 0 < l.length := by
  have h' : k < o.length := by rw [h.len]; exact hk
  rw [List.getD_eq_getElem?_getD, List.getElem?_eq_getElem h']
  exact List.mem_range.mp (h.perm.mem_iff.mp (List.getElem_mem h'))
theorem Ord.up {a b : Nat} (hab : a < b) (hb : b < l.length) : Pc.lt (en l o a) (en l o b) = true := by
  have ha' : a < o.length := by rw [h.len]; omega
  have hb' : b < o.length := by rw [h.len]; omega
  have := List.pairwise_iff_getElem.mp h.lt a b ha' hb' hab
  unfold en
  rw [List.getD_eq_getElem?_getD, List.getElem?_eq_getElem ha', List.getD_eq_getElem?_getD, List.getElem?_eq_getElem hb']
  exact this
theorem Ord.as : o = (List.range l.length).map fun k => o.getD k 0 := by
  refine List.ext_getElem (by rw [List.length_map, List.length_range, h.len]) fun i h1 h2 => ?_
  rw [List.getElem_map, List.getElem_range, List.getD_eq_getElem?_getD, List.getElem?_eq_getElem h1]
  rfl
theorem Ord.filter (P : Nat → Bool) : ((List.range l.length).filter P).length = ((List.range l.length).filter fun k => P (o.getD k 0)).length := by
  have h1 := (h.perm.filter P).length_eq
  rw [← h1]
  have h2 := h.as
  rw [h2, List.filter_map, List.length_map, ← h2]
  rfl
theorem Ord.count {w : List Nat} (h0 : w ≠ []) : (allp l l.length).count w = ((List.range l.length).filter fun k => decide (Pre w (en l o k))).length := by
  rw [count_allp h0, h.filter]
theorem Ord.twice {w : List Nat} (h0 : w ≠ []) : 1 < (allp l l.length).count w ↔ ∃ a b, a < b ∧ b < l.length ∧ Pre w (en l o a) ∧ Pre w (en l o b) := by
  rw [h.count h0]
  have := two_of (P := fun k => decide (Pre w (en l o k))) (n := l.length)
  constructor
  · intro q
    obtain ⟨a, b, h1, h2, h3, h4⟩ := this.mp q
    exact ⟨a, b, h1, h2, of_decide_eq_true h3, of_decide_eq_true h4⟩
  · rintro ⟨a, b, h1, h2, h3, h4⟩
    exact this.mpr ⟨a, b, h1, h2, decide_eq_true h3, decide_eq_true h4⟩
/-- what neighbours share -/
theorem Ord.share {w : List Nat} {a b : Nat} (hab : a < b) (hb : b < l.length) (p1 : Pre w (en l o a)) (p2 : Pre w (en l o b)) : w.length ≤ lcp (en l o a) (en l o (a + 1)) := by
  have h1 := (pre_lcp p2).mp p1
  by_cases e : a + 1 = b
  · rw [e]; exact h1
  · exact Nat.le_trans h1 (lcp_mid (h.up (show a < a + 1 by omega) (by omega)) (h.up (show a + 1 < b by omega) hb)).1
theorem Ord.shared {a : Nat} (ha : a + 1 < l.length) (h0 : lcp (en l o a) (en l o (a + 1)) ≠ 0) : 1 < (allp l l.length).count ((en l o a).take (lcp (en l o a) (en l o (a + 1)))) ∧ ((en l o a).take (lcp (en l o a) (en l o (a + 1)))).length = lcp (en l o a) (en l o (a + 1)) := by
  have hl := lcp_le_l (en l o a) (en l o (a + 1))
  have hr := lcp_le_r (en l o a) (en l o (a + 1))
  have hle : ((en l o a).take (lcp (en l o a) (en l o (a + 1)))).length = lcp (en l o a) (en l o (a + 1)) := by rw [List.length_take]; omega
  have hp : Pre ((en l o a).take (lcp (en l o a) (en l o (a + 1)))) (en l o a) := ⟨by omega, by rw [hle]⟩
  refine ⟨(h.twice fun e => by rw [e] at hle; exact h0 hle.symm).mpr ⟨a, a + 1, by omega, ha, hp, by rw [hle]; omega, ?_⟩, hle⟩
  rw [hle]
  exact ((take_lcp (en l o a) (en l o (a + 1)) _ hl).mpr (Nat.le_refl _)).symm
/-- how many different pieces -/
theorem Ord.keys {W : List (List Nat)} (hn : W.Nodup) (hm : ∀ w, w ∈ W ↔ w ∈ allp l l.length) : 2 * (W.length + ((List.range (l.length - 1)).map fun i => lcp (en l o i) (en l o (i + 1))).sum) = l.length * (l.length + 1) := by
  have up : Up [] (o.map fun i => l.drop i) := up_of (fun s hs => by
    obtain ⟨i, hi, rfl⟩ := List.mem_map.mp hs
    refine lt_nil fun e => ?_
    have := congrArg List.length e
    have hi := List.mem_range.mp (h.perm.mem_iff.mp hi)
    rw [List.length_drop] at this
    simp at this
    omega) (List.pairwise_map.mpr h.lt)
  have e1 : W.length = (canon [] (o.map fun i => l.drop i)).length := nodup_len hn (canon_nodup up) fun w => by
    rw [hm, mem_allp, mem_canon up]
    constructor
    · rintro ⟨h0, i, hi, hp⟩
      exact ⟨h0, ⟨_, List.mem_map.mpr ⟨i, h.perm.mem_iff.mpr (List.mem_range.mpr hi), rfl⟩, hp⟩, fun q => h0 (pre_nil.mp q)⟩
    · rintro ⟨h0, ⟨s, hs, hp⟩, _⟩
      obtain ⟨i, hi, rfl⟩ := List.mem_map.mp hs
      exact ⟨h0, i, List.mem_range.mp (h.perm.mem_iff.mp hi), hp⟩
  have e2 := canon_length [] (o.map fun i => l.drop i)
  have e3 : total (o.map fun i => l.drop i) = total ((List.range l.length).map fun i => l.drop i) := total_perm (h.perm.map _)
  have e4 := total_ends l l.length (Nat.le_refl _)
  have e5 : sharedSum [] (o.map fun i => l.drop i) = ((List.range (l.length - 1)).map fun i => lcp (en l o i) (en l o (i + 1))).sum := by
    have hl := h.len
    cases o with
    | nil =>
      have : l.length = 0 := hl.symm
      rw [this]; rfl
    | cons x o =>
      show lcp [] (l.drop x) + sharedSum (l.drop x) (o.map fun i => l.drop i) = _
      have hx : lcp [] (l.drop x) = 0 := by cases l.drop x <;> rfl
      rw [hx, Nat.zero_add, sharedSum_eq, List.length_map, show l.length - 1 = o.length by rw [← hl]; rfl]
      congr 1
      refine List.map_congr_left fun i hi => ?_
      have hi := List.mem_range.mp hi
      have g : ∀ k, k < (x :: o).length → (l.drop x :: o.map fun i => l.drop i).getD k [] = en l (x :: o) k := fun k hk => by
        show ((x :: o).map fun i => l.drop i).getD k [] = _
        unfold en
        rw [List.getD_eq_getElem?_getD, List.getElem?_map, List.getElem?_eq_getElem hk, List.getD_eq_getElem?_getD, List.getElem?_eq_getElem hk]
        rfl
      have g1 := g i (by rw [List.length_cons]; omega)
      have g2 := g (i + 1) (by rw [List.length_cons]; omega)
      rw [g1, ← g2]
      rfl
  rw [e1, ← e5, e2, e3]
  have e6 : l.length * (2 * l.length + 1) = l.length * l.length + l.length * (l.length + 1) := by rw [← Nat.mul_add]; congr 1; omega
  omega
end
end Pc
/-! The longest pieces that stand twice; runs of the order; lists in order. -/
namespace Pc
theorem sorted_ext {α : Type} {R : α → α → Prop} (irr : ∀ a, ¬ R a a) (tr : ∀ a b c, R a b → R b c → R a c) : ∀ {l m : List α}, l.Pairwise R → m.Pairwise R → (∀ x, x ∈ l ↔ x ∈ m) → l = m
  | [], [], _, _, _ => rfl
  | [], b :: m, _, _, h => absurd ((h b).mpr List.mem_cons_self) List.not_mem_nil
  | a :: l, [], _, _, h => absurd ((h a).mp List.mem_cons_self) List.not_mem_nil
  | a :: l, b :: m, p, q, h => by
    have p' := List.pairwise_cons.mp p
    have q' := List.pairwise_cons.mp q
    have e : a = b := by
      rcases List.mem_cons.mp ((h a).mp List.mem_cons_self) with e | h1
      · exact e
      · rcases List.mem_cons.mp ((h b).mpr List.mem_cons_self) with e | h2
        · exact e.symm
        · exact absurd (tr _ _ _ (p'.1 b h2) (q'.1 a h1)) (irr a)
    subst e
    congr 1
    refine sorted_ext irr tr p'.2 q'.2 fun x => ⟨fun hx => ?_, fun hx => ?_⟩
    · rcases List.mem_cons.mp ((h x).mp (List.mem_cons_of_mem _ hx)) with e | h1
      · exact absurd (p'.1 x hx) (e ▸ irr x)
      · exact h1
    · rcases List.mem_cons.mp ((h x).mpr (List.mem_cons_of_mem _ hx)) with e | h1
      · exact absurd (q'.1 x hx) (e ▸ irr x)
      · exact h1
theorem run_range {n f b : Nat} {P : Nat → Bool} (hb : b ≤ n) (h : ∀ k, k < n → (P k = true ↔ f ≤ k ∧ k < b)) : (List.range n).filter P = List.range' f (b - f) := by
  refine sorted_ext (R := (· < ·)) (fun a => Nat.lt_irrefl a) (fun a b c => Nat.lt_trans) (List.Pairwise.filter _ List.pairwise_lt_range) (List.pairwise_lt_range' ..) fun k => ?_
  rw [List.mem_filter, List.mem_range, List.mem_range'_1]
  constructor
  · rintro ⟨h1, h2⟩
    have := (h k h1).mp h2
    omega
  · intro h1
    have : k < n := by omega
    exact ⟨this, (h k this).mpr (by omega)⟩
section
variable {l o : List Nat} (h : Ord l o)
include h
theorem Ord.long_le {M : Nat} (hM : ∀ i, i + 1 < l.length → lcp (en l o i) (en l o (i + 1)) ≤ M) {w : List Nat} (h0 : w ≠ []) (h1 : 1 < (allp l l.length).count w) : w.length ≤ M := by
  obtain ⟨a, b, hab, hb, p1, p2⟩ := (h.twice h0).mp h1
  exact Nat.le_trans (h.share hab hb p1 p2) (hM a (by omega))
theorem Ord.least {M i : Nat} (hM : ∀ i, i + 1 < l.length → lcp (en l o i) (en l o (i + 1)) ≤ M) (hn : ∀ j, j < i → lcp (en l o j) (en l o (j + 1)) ≠ M) {w : List Nat} (h0 : w ≠ []) (h1 : 1 < (allp l l.length).count w) (h2 : w.length = M) :
    Pc.lt w ((en l o i).take M) = false := by
  obtain ⟨a, b, hab, hb, p1, p2⟩ := (h.twice h0).mp h1
  have h3 := h.share hab hb p1 p2
  have h4 := hM a (by omega)
  have e : w = (en l o a).take M := by rw [← h2]; exact p1.2.symm
  have : ¬ a < i := fun z => hn a z (by omega)
  rw [e]
  by_cases q : a = i
  · rw [q]; exact lt_irrefl _
  · exact take_mono M (h.up (show i < a by omega) (by omega))
/-- before a piece -/
abbrev bef (l o p : List Nat) (k : Nat) : Bool := lt ((en l o k).take p.length) p
abbrev isP (l o p : List Nat) (k : Nat) : Bool := decide ((en l o k).take p.length = p)
theorem Ord.mono (p : List Nat) (bh : Bool) : ∀ i j, i < j → j < l.length → (bef l o p i || (bh && isP l o p i)) = false → (bef l o p j || (bh && isP l o p j)) = false := by
  intro i j hij hj hi
  have t := take_mono p.length (h.up hij hj)
  simp only [Bool.or_eq_false_iff, Bool.and_eq_false_iff] at hi ⊢
  have b1 : bef l o p j = false := by
    cases e : bef l o p j with
    | false => rfl
    | true =>
      have := not_lt_trans t e
      have h1 : Pc.lt ((en l o i).take p.length) p = false := hi.1
      rw [h1] at this; cases this
  refine ⟨b1, ?_⟩
  rcases hi.2 with h2 | h2
  · exact .inl h2
  · refine .inr (decide_eq_false fun e => ?_)
    have h2 := of_decide_eq_false h2
    rw [e] at t
    rcases tri ((en l o i).take p.length) p with q | q | q
    · have h1 : Pc.lt ((en l o i).take p.length) p = false := hi.1
      rw [h1] at q; cases q
    · exact h2 q
    · rw [t] at q; cases q
theorem Ord.run {p : List Nat} {f b : Nat} (hb : b ≤ l.length) (f1 : ∀ i, i < f → (bef l o p i || (false && isP l o p i)) = true) (f2 : ∀ i, f ≤ i → i < l.length → (bef l o p i || (false && isP l o p i)) = false)
    (b1 : ∀ i, i < b → (bef l o p i || (true && isP l o p i)) = true) (b2 : ∀ i, b ≤ i → i < l.length → (bef l o p i || (true && isP l o p i)) = false) : (List.range l.length).filter (isP l o p) = List.range' f (b - f) := by
  refine run_range hb fun k hk => ?_
  constructor
  · intro q
    have q' := of_decide_eq_true q
    refine ⟨Nat.le_of_not_lt fun z => ?_, Nat.lt_of_not_le fun z => ?_⟩
    · have := f1 k z
      simp only [bef, q', lt_irrefl] at this
      simp at this
    · have := b2 k z hk
      rw [q] at this
      simp at this
  · rintro ⟨h1, h2⟩
    have e1 := f2 k h1 hk
    have e2 := b1 k h2
    simp only [Bool.false_and, Bool.or_false] at e1
    rw [e1] at e2
    simpa using e2
end
/-- only one order has the ends in order -/
theorem ord_one {l o q : List Nat} (h : Ord l o) (hp : q.Perm (List.range l.length)) (hs : ∀ i, i + 1 < q.length → lt (en l q i) (en l q (i + 1)) = true) : q = o := by
  have key : ∀ (q : List Nat), (∀ i, i + 1 < q.length → lt (en l q i) (en l q (i + 1)) = true) → q.Pairwise fun i j => Pc.lt (l.drop i) (l.drop j) = true := by
    intro q
    induction q with
    | nil => intro _; exact List.Pairwise.nil
    | cons x q ih =>
      intro hs
      have ih' := ih fun i hi => hs (i + 1) (by simpa using hi)
      cases q with
      | nil => simp
      | cons y q =>
        have h1 : lt (l.drop x) (l.drop y) = true := hs 0 (by simp)
        refine List.pairwise_cons.mpr ⟨fun z hz => ?_, ih'⟩
        rcases List.mem_cons.mp hz with rfl | hz
        · exact h1
        · exact lt_trans h1 ((List.pairwise_cons.mp ih').1 z hz)
  exact sorted_ext (R := fun i j => Pc.lt (l.drop i) (l.drop j) = true) (fun a => by rw [lt_irrefl]; exact Bool.false_ne_true) (fun a b c => lt_trans) (key q hs) h.lt fun x => by rw [hp.mem_iff, h.perm.mem_iff]
end Pc
/-! k92: texts as lists of letters. -/
namespace G
open PySem L2 DL
def tS (l : List Nat) : D := .str ⟨l.toArray⟩
theorem szS {n : Nat} (h : n ≤ 1000000) : n ≤ sizeLine := Nat.le_trans h sizeLine_big
theorem cut_tS {l : List Nat} {lo hi : Option Int} (h : l.length ≤ 1000000) : aSlA lo hi (tS l) = some (tS (cutD l lo hi)) := by
  have hl : (⟨l.toArray⟩ : Str).length = l.length := by
    show l.toArray.size = _
    simp
  show (if (⟨l.toArray⟩ : Str).length ≤ sizeLine then some (PyData.str (cutS ⟨l.toArray⟩ lo hi)) else none) = _
  rw [if_pos (by rw [hl]; exact szS h)]
  congr 2
theorem len_tS {l : List Nat} (h : l.length ≤ 1000000) : aLen [tS l] = some (.int (l.length : Int)) := by
  have hl : (⟨l.toArray⟩ : Str).length = l.length := by
    show l.toArray.size = _
    simp
  show (if (⟨l.toArray⟩ : Str).length ≤ sizeLine then some (PyData.int ((⟨l.toArray⟩ : Str).length : Int)) else none) = _
  rw [if_pos (by rw [hl]; exact szS h), hl]
theorem lt_lex : ∀ a b : List Nat, decide (a < b) = Pc.lt a b
  | [], [] => by simp [Pc.lt]
  | [], _ :: _ => by simp [Pc.lt]
  | _ :: _, [] => by simp [Pc.lt]
  | x :: a, y :: b => by
    simp only [Pc.lt, ← lt_lex a b, List.cons_lt_cons_iff]
    by_cases h1 : x < y <;> by_cases h2 : x = y <;> simp [h1, h2]
theorem lt_tS (a b : List Nat) : aLtA (tS a) (tS b) = some (.bool (Pc.lt a b)) := by
  show some (PyData.bool (decide (a.toArray.toList < b.toArray.toList))) = _
  rw [← lt_lex]
end G
/-! k92: texts compared. -/
namespace G
open PySem L2 DL
/-- letters that the law draws -/
def Lt (l : List Nat) : Prop := ∀ c ∈ l, c < 128
theorem inj_tS {a b : List Nat} (h : tS a = tS b) : a = b := by
  unfold tS at h
  have h := PyData.str.inj h
  have h : a.toArray = b.toArray := congrArg Str.cps h
  simpa using h
theorem eqv_tS (a b : List Nat) : PyData.eqv (tS a) (tS b) = decide (a = b) := by
  unfold tS
  simp only [PyData.eqv]
  by_cases h : a = b
  · subst h; simp
  · simp [h]
theorem shaped_tS {l : List Nat} (h : Lt l) : SeqAt.shaped (tS l) = true := by
  refine Bool.and_eq_true_iff.mpr ⟨?_, decide_eq_true (by show PyData.depth (.str _) ≤ 64; simp [PyData.depth])⟩
  show PyData.canLay0 (.str ⟨l.toArray⟩) = true
  simp only [PyData.canLay0]
  show l.toArray.all (· < 0x110000) = true
  rw [Array.all_eq_true]
  intro i hi
  have : l.toArray[i] ∈ l := by simp
  have := h _ this
  exact decide_eq_true (by omega)
theorem eq_tS {a b : List Nat} (ha : Lt a) (hb : Lt b) : aEq (tS a) (tS b) = some (.bool (decide (a = b))) := by
  unfold aEq
  rw [if_pos ⟨shaped_tS ha, shaped_tS hb⟩, eqv_tS]
theorem Lt.drop {l : List Nat} (h : Lt l) (k : Nat) : Lt (l.drop k) := fun c hc => h c (List.mem_of_mem_drop hc)
theorem Lt.take {l : List Nat} (h : Lt l) (k : Nat) : Lt (l.take k) := fun c hc => h c (List.mem_of_mem_take hc)
theorem ix_tS {l : List Nat} {k : Nat} (hk : k < l.length) (h : l.length ≤ 1000000) : aIx (tS l) (.int (k : Int)) = some (tS [l.getD k 0]) := by
  have hl : (⟨l.toArray⟩ : Str).length = l.length := by
    show l.toArray.size = _
    simp
  show (if (⟨l.toArray⟩ : Str).length ≤ sizeLine then (atI (⟨l.toArray⟩ : Str).cps.toList (k : Int)).map fun c => PyData.str ⟨#[c]⟩ else none) = _
  rw [if_pos (by rw [hl]; exact szS h)]
  have : atI l (k : Int) = some (l.getD k 0) := atI_nat (by rw [List.getD_eq_getElem?_getD, List.getElem?_eq_getElem hk]; rfl)
  show (atI l (k : Int)).map _ = _
  rw [this]
  rfl
end G
/-! Texts and lists of them as data: orders, sorts, least, greatest, sums, slices, keys (from k92's texts, on their own). -/
namespace G
open PySem L2 DL
abbrev nI (k : Nat) : D := .int (k : Int)
abbrev dS (x : D) : Option DL.S := some (.d x)
abbrev pS (p : List D) : Option DL.S := some (.l .own p)
theorem lt_data (a b : List Nat) : PySem.W.dataLt (tS a) (tS b) = Pc.lt a b := by
  unfold tS
  rw [PySem.W.dataLt_str, ← lt_lex]
theorem minD_tS {v : List Nat} : ∀ (xs : List (List Nat)) (x : List Nat), (∀ w ∈ x :: xs, Pc.lt w v = false) → v ∈ x :: xs → PySem.W.minD (tS x) (xs.map tS) = tS v
  | [], x, _, h => by rw [List.mem_singleton] at h; rw [h]; rfl
  | y :: xs, x, h1, h2 => by
    have e : PySem.W.minD (tS x) ((y :: xs).map tS) = PySem.W.minD (tS (if Pc.lt y x = true then y else x)) (xs.map tS) := by
      show PySem.W.minD (if PySem.W.dataLt (tS y) (tS x) = true then tS y else tS x) (xs.map tS) = _
      rw [lt_data]
      congr 1
      split <;> rfl
    rw [e]
    refine minD_tS xs _ (fun w hw => ?_) ?_
    · rcases List.mem_cons.mp hw with rfl | hw
      · split
        · exact h1 y (by simp)
        · exact h1 x (by simp)
      · exact h1 w (by simp [hw])
    · rcases List.mem_cons.mp h2 with rfl | h2
      · rw [if_neg (by rw [h1 y (by simp)]; exact Bool.false_ne_true)]
        exact List.mem_cons_self
      · rcases List.mem_cons.mp h2 with rfl | h2
        · by_cases q : Pc.lt v x = true
          · rw [if_pos q]; exact List.mem_cons_self
          · rw [if_neg q]
            rcases Pc.tri v x with z | z | z
            · exact absurd z q
            · rw [z]; exact List.mem_cons_self
            · rw [h1 x (by simp)] at z; cases z
        · exact List.mem_cons_of_mem _ h2
theorem maxD_nI {v : Nat} : ∀ (xs : List Nat) (x : Nat), (∀ w ∈ x :: xs, w ≤ v) → v ∈ x :: xs → PySem.W.maxD (nI x) (xs.map nI) = nI v
  | [], x, _, h => by rw [List.mem_singleton] at h; rw [h]; rfl
  | y :: xs, x, h1, h2 => by
    have e : PySem.W.maxD (nI x) ((y :: xs).map nI) = PySem.W.maxD (nI (if x < y then y else x)) (xs.map nI) := by
      show PySem.W.maxD (if PySem.W.dataLt (nI x) (nI y) = true then nI y else nI x) (xs.map nI) = _
      rw [PySem.W.dataLt_int]
      congr 1
      by_cases q : x < y
      · rw [if_pos q, if_pos (decide_eq_true (by omega))]
      · rw [if_neg q, if_neg (by simpa using q)]
    rw [e]
    refine maxD_nI xs _ (fun w hw => ?_) ?_
    · rcases List.mem_cons.mp hw with rfl | hw
      · split
        · exact h1 y (by simp)
        · exact h1 x (by simp)
      · exact h1 w (by simp [hw])
    · rcases List.mem_cons.mp h2 with rfl | h2
      · have := h1 y (by simp)
        rw [if_neg (by omega)]
        exact List.mem_cons_self
      · rcases List.mem_cons.mp h2 with rfl | h2
        · by_cases q : x < v
          · rw [if_pos q]; exact List.mem_cons_self
          · have := h1 x (by simp)
            rw [if_neg q, show x = v by omega]; exact List.mem_cons_self
        · exact List.mem_cons_of_mem _ h2
theorem depth_tSs (xs : List (List Nat)) : PyData.depthAll (xs.map tS) = 0 := by
  induction xs with
  | nil => rfl
  | cons x xs ih => show max (tS x).depth (PyData.depthAll (xs.map tS)) = 0; rw [ih]; simp [tS, PyData.depth]
theorem lay_tSs {xs : List (List Nat)} (h : ∀ x ∈ xs, Lt x) : PyData.canLayAll0 (xs.map tS) = true := by
  induction xs with
  | nil => rfl
  | cons x xs ih =>
    show (PyData.canLay0 (tS x) && PyData.canLayAll0 (xs.map tS)) = true
    rw [ih fun y hy => h y (List.mem_cons_of_mem _ hy), (Bool.and_eq_true_iff.mp (shaped_tS (h x List.mem_cons_self))).1]
    rfl
theorem best_tSs {xs : List (List Nat)} (h : ∀ x ∈ xs, Lt x) : bestOk (xs.map tS) = true := by
  unfold bestOk
  simp only [Bool.and_eq_true]
  refine ⟨⟨⟨?_, ?_⟩, decide_eq_true (by rw [depth_tSs]; omega)⟩, lay_tSs h⟩
  · refine List.all_eq_true.mpr fun a ha => List.all_eq_true.mpr fun b hb => ?_
    obtain ⟨s, _, rfl⟩ := List.mem_map.mp ha
    obtain ⟨t, _, rfl⟩ := List.mem_map.mp hb
    rfl
  · refine List.all_eq_true.mpr fun a ha => ?_
    obtain ⟨s, _, rfl⟩ := List.mem_map.mp ha
    rfl
theorem ints_nI (xs : List Nat) : xs.map nI = (xs.map fun k : Nat => (k : Int)).map .int := by rw [List.map_map]; rfl
theorem best_nIs (xs : List Nat) : bestOk (xs.map nI) = true := by
  unfold bestOk
  simp only [Bool.and_eq_true]
  refine ⟨⟨⟨?_, ?_⟩, decide_eq_true (by rw [ints_nI, depth_ints]; omega)⟩, by rw [ints_nI]; exact lay_ints _⟩
  · refine List.all_eq_true.mpr fun a ha => List.all_eq_true.mpr fun b hb => ?_
    obtain ⟨s, _, rfl⟩ := List.mem_map.mp ha
    obtain ⟨t, _, rfl⟩ := List.mem_map.mp hb
    rfl
  · refine List.all_eq_true.mpr fun a ha => ?_
    obtain ⟨s, _, rfl⟩ := List.mem_map.mp ha
    rfl
theorem min_tS {xs : List (List Nat)} {v : List Nat} (h : ∀ x ∈ xs, Lt x) (h1 : ∀ w ∈ xs, Pc.lt w v = false) (h2 : v ∈ xs) : aMin [.list (xs.map tS)] = some (tS v) := by
  cases xs with
  | nil => cases h2
  | cons x xs =>
    show aBest PySem.W.minD [.list (tS x :: xs.map tS)] = _
    have := best_tSs h
    refine (if_pos this).trans ?_
    rw [minD_tS xs x h1 h2]
theorem max_best {xs : List Nat} {v : Nat} (h1 : ∀ w ∈ xs, w ≤ v) (h2 : v ∈ xs) : aBest PySem.W.maxD [.list (xs.map nI)] = some (nI v) := by
  cases xs with
  | nil => cases h2
  | cons x xs =>
    refine (if_pos (best_nIs (x :: xs))).trans ?_
    rw [maxD_nI xs x h1 h2]
theorem max_nI {xs : List Nat} {v : Nat} (h1 : ∀ w ∈ xs, w ≤ v) (h2 : v ∈ xs) : aMax [.list (xs.map nI)] = some (nI v) := max_best h1 h2
theorem sum_nI (xs : List Nat) : aSum [.list (xs.map nI)] = some (nI xs.sum) := by
  rw [ints_nI, ev_sum]
  congr 2
  induction xs with
  | nil => rfl
  | cons x xs ih => rw [List.map_cons, List.sum_cons, List.sum_cons, ih]; omega
theorem eqv_nI (a b : Nat) : PyData.eqv (nI a) (nI b) = decide (a = b) := by
  unfold PyData.eqv
  by_cases h : a = b
  · subst h; simp
  · have : ¬ (a : Int) = (b : Int) := by omega
    simp [h, this]
theorem idx_nI (a : Nat) : ∀ {l : List Nat} {i : Nat}, l[i]? = some a → (∀ m, m < i → l[m]? ≠ some a) → idxD (nI a) (l.map nI) = some i
  | [], i, h, _ => by simp at h
  | x :: l, 0, h, _ => by
    simp at h
    subst h
    show (if PyData.eqv (nI x) (nI x) = true then some 0 else _) = _
    rw [eqv_nI, if_pos (by simp)]
  | x :: l, i + 1, h, hn => by
    have h0 : x ≠ a := fun e => hn 0 (by omega) (by rw [e]; rfl)
    show (if PyData.eqv (nI x) (nI a) = true then some 0 else (idxD (nI a) (l.map nI)).map (· + 1)) = _
    rw [eqv_nI, if_neg (by simpa using h0), idx_nI a (by simpa using h) (fun m hm e => hn (m + 1) (by omega) (by simpa using e))]
    rfl
theorem shaped_nIs (l : List Nat) : SeqAt.shaped (.list (l.map nI)) = true := by rw [ints_nI]; exact shaped_LI _
theorem shaped_nI (k : Nat) : SeqAt.shaped (nI k) = true := rfl
theorem index_nI {a : Nat} {l : List Nat} {i : Nat} (h : l[i]? = some a) (hn : ∀ m, m < i → l[m]? ≠ some a) : aIndex (.list (l.map nI)) [nI a] = some (nI i) := by
  show (if SeqAt.shaped (.list (l.map nI)) = true ∧ SeqAt.shaped (nI a) = true then (idxD (nI a) (l.map nI)).map fun j => PyData.int (j : Nat) else none) = _
  rw [if_pos ⟨shaped_nIs l, shaped_nI a⟩, idx_nI a h hn]
  rfl
theorem tot_dLe : PySem.W.TotalLe dLe := PySem.W.sortLe_total _ _ _
theorem sorted_gen {α : Type} (f : α → D) {xs ys : List α} (hal : ∀ a ∈ xs, ∀ b ∈ xs, PySem.W.alike (f a) (f b) = true) (hns : (xs.all fun a => noSeq (f a)) = true ∨ (xs.all fun a => tupS (f a)) = true) (hd : ∀ a ∈ xs, (f a).depth ≤ 60) (hy : ∀ a ∈ xs, (f a).canLay0 = true) (hp : xs.Perm ys)
    (hle : ys.Pairwise fun a b => dLe (f a) (f b) = true) (anti : ∀ a ∈ xs, ∀ b ∈ xs, dLe (f a) (f b) = true → dLe (f b) (f a) = true → f a = f b) : aSorted [.list (xs.map f)] = some (.list (ys.map f)) := by
  have c : ((xs.map f).all fun x => (xs.map f).all fun y => PySem.W.alike x y) = true ∧ ((xs.map f).all noSeq || (xs.map f).all tupS) = true ∧ ((xs.map f).all fun x => decide (x.depth ≤ 60)) = true ∧ ((xs.map f).all fun x => x.canLay0) = true := by
   refine ⟨?_, ?_, ?_, ?_⟩
   · refine List.all_eq_true.mpr fun x hx => List.all_eq_true.mpr fun y hy => ?_
     obtain ⟨s, hs, rfl⟩ := List.mem_map.mp hx
     obtain ⟨t, ht, rfl⟩ := List.mem_map.mp hy
     exact hal s hs t ht
   · rw [Bool.or_eq_true, List.all_map, List.all_map]
     exact hns
   · refine List.all_eq_true.mpr fun x hx => ?_
     obtain ⟨s, hs, rfl⟩ := List.mem_map.mp hx
     exact decide_eq_true (hd s hs)
   · refine List.all_eq_true.mpr fun x hx => ?_
     obtain ⟨s, hs, rfl⟩ := List.mem_map.mp hx
     exact hy s hs
  refine (if_pos c).trans ?_
  · congr 2
    refine List.Perm.eq_of_pairwise (le := fun a b => dLe a b = true) (fun a b ha hb h1 h2 => ?_) (PySem.W.sort_pairwise tot_dLe _) (List.pairwise_map.mpr hle) ((List.mergeSort_perm _ _).trans (hp.map f))
    obtain ⟨s, hs, rfl⟩ := List.mem_map.mp (List.mem_mergeSort.mp ha)
    obtain ⟨t, ht, rfl⟩ := List.mem_map.mp hb
    exact anti s hs t (hp.mem_iff.mpr ht) h1 h2
theorem dLe_nI (a b : Nat) : dLe (nI a) (nI b) = decide (a ≤ b) := by
  show (!PySem.W.dataLt (nI b) (nI a)) = _
  rw [PySem.W.dataLt_int]
  by_cases h : a ≤ b
  · have : ¬ (b : Int) < (a : Int) := by omega
    simp [h, this]
  · have : (b : Int) < (a : Int) := by omega
    simp [h, this]
theorem dLe_tS (a b : List Nat) : dLe (tS a) (tS b) = !Pc.lt b a := by
  show (!PySem.W.dataLt (tS b) (tS a)) = _
  rw [lt_data]
theorem sorted_nI {xs ys : List Nat} (hp : xs.Perm ys) (hs : ys.Pairwise (· < ·)) : aSorted [.list (xs.map nI)] = some (.list (ys.map nI)) := by
  refine sorted_gen nI (fun _ _ _ _ => rfl) (.inl (List.all_eq_true.mpr fun _ _ => rfl)) (fun _ _ => by show (0 : Nat) ≤ 60; decide) (fun _ _ => rfl) hp (hs.imp fun h => by rw [dLe_nI]; exact decide_eq_true (Nat.le_of_lt h)) fun a _ b _ h1 h2 => ?_
  rw [dLe_nI, decide_eq_true_iff] at h1 h2
  rw [show a = b by omega]
theorem sorted_nI' {xs ys : List Nat} (hp : xs.Perm ys) (hs : ys.Pairwise (· ≤ ·)) : aSorted [.list (xs.map nI)] = some (.list (ys.map nI)) := by
  refine sorted_gen nI (fun _ _ _ _ => rfl) (.inl (List.all_eq_true.mpr fun _ _ => rfl)) (fun _ _ => by show (0 : Nat) ≤ 60; decide) (fun _ _ => rfl) hp (hs.imp fun h => by rw [dLe_nI]; exact decide_eq_true h) fun a _ b _ h1 h2 => ?_
  rw [dLe_nI, decide_eq_true_iff] at h1 h2
  rw [show a = b by omega]
theorem sorted_tS {xs ys : List (List Nat)} (hl : ∀ x ∈ xs, Lt x) (hp : xs.Perm ys) (hs : ys.Pairwise fun a b => Pc.lt b a = false) : aSorted [.list (xs.map tS)] = some (.list (ys.map tS)) := by
  refine sorted_gen tS (fun _ _ _ _ => rfl) (.inl (List.all_eq_true.mpr fun _ _ => rfl)) (fun _ _ => by simp [tS, PyData.depth]) (fun a ha => (Bool.and_eq_true_iff.mp (shaped_tS (hl a ha))).1) hp (hs.imp fun h => by rw [dLe_tS, h]; rfl) fun a _ b _ h1 h2 => ?_
  rw [dLe_tS] at h1 h2
  rcases Pc.tri a b with q | q | q
  · rw [q] at h2; cases h2
  · rw [q]
  · rw [q] at h1; cases h1
theorem eqv_nIs (a b : List Nat) : PyData.eqv (.list (a.map nI)) (.list (b.map nI)) = decide (a = b) := by
  rw [ints_nI, ints_nI]
  rw [show PyData.eqv (.list ((a.map fun k : Nat => (k : Int)).map .int)) (.list ((b.map fun k : Nat => (k : Int)).map .int)) = decide ((a.map fun k : Nat => (k : Int)) = (b.map fun k : Nat => (k : Int))) from eqv_LI _ _]
  congr 1
  have inj : Function.Injective fun k : Nat => (k : Int) := fun x y h => by have : (x : Int) = (y : Int) := h; omega
  exact propext ⟨fun h => (List.map_inj_right (fun x y h => inj h)).mp h, fun h => by rw [h]⟩
theorem eq_nIs (a b : List Nat) : aEq (.list (a.map nI)) (.list (b.map nI)) = some (.bool (decide (a = b))) := by
  unfold aEq; rw [if_pos ⟨shaped_nIs a, shaped_nIs b⟩, eqv_nIs]
theorem ne_nIs (a b : List Nat) : aNe (.list (a.map nI)) (.list (b.map nI)) = some (.bool (!decide (a = b))) := by
  unfold aNe; rw [if_pos ⟨shaped_nIs a, shaped_nIs b⟩, eqv_nIs]
theorem upTo_nI (lo n : Nat) : DL.upTo (lo : Int) n = (List.range' lo n).map nI := by
  rw [upTo_map, List.range'_eq_map_range, List.map_map]
  refine List.map_congr_left fun k _ => ?_
  show PyData.int ((lo : Int) + (k : Int)) = .int ((lo + k : Nat) : Int)
  congr 1
theorem upTo0_nI (n : Nat) : DL.upTo 0 n = (List.range n).map nI := by
  have := upTo_nI 0 n
  rw [← List.range_eq_range'] at this
  exact this
theorem cut_mid {α : Type} {xs : List α} {i j : Nat} : cutD xs (some (i : Int)) (some (j : Int)) = (xs.drop i).take (j - i) := by
  unfold cutD
  rw [HT.sIx_nat, HT.sIx_nat]
  by_cases hi : i ≤ xs.length
  · rw [Nat.min_eq_left hi]
    by_cases hj : j ≤ xs.length
    · rw [Nat.min_eq_left hj]
    · rw [Nat.min_eq_right (by omega), List.take_of_length_le (by rw [List.length_drop]; omega), List.take_of_length_le (by rw [List.length_drop]; omega)]
  · rw [Nat.min_eq_right (show xs.length ≤ i by omega), List.drop_of_length_le (by omega), List.drop_of_length_le (show xs.length ≤ i by omega)]
    simp
abbrev kS (w : List Nat) : Key := .inr ⟨w.toArray⟩
theorem keyOf_tS (w : List Nat) : keyOf (tS w) = some (kS w) := rfl
theorem kS_inj {a b : List Nat} : keyOf (tS a) = some (kS b) ↔ a = b := by
  constructor
  · intro h
    have h := Option.some.inj h
    exact inj_tS (congrArg PyData.str (Sum.inr.inj h))
  · rintro rfl; rfl
theorem len_S (l : List Nat) : (⟨l.toArray⟩ : Str).length = l.length := by
  show l.toArray.size = _
  simp
theorem add_tS {a b : List Nat} (h : a.length + b.length ≤ 1000000) : aAdd (tS a) (tS b) = some (tS (a ++ b)) := by
  show (if (⟨a.toArray⟩ : Str).length + (⟨b.toArray⟩ : Str).length ≤ sizeLine then some (PyData.str (⟨a.toArray⟩ ++ ⟨b.toArray⟩)) else none) = _
  rw [len_S, len_S, if_pos (szS h)]
  congr 2
  show (⟨a.toArray ++ b.toArray⟩ : Str) = ⟨(a ++ b).toArray⟩
  simp
theorem Lt.app {a b : List Nat} (h1 : Lt a) (h2 : Lt b) : Lt (a ++ b) := fun c hc => by
  rcases List.mem_append.mp hc with h | h
  · exact h1 c h
  · exact h2 c h
theorem cut_upto {α : Type} {xs : List α} {k : Nat} : cutD xs none (some (k : Int)) = xs.take k := by
  unfold cutD
  rw [HT.sIx_nat, HT.sIx_none]
  by_cases h : k ≤ xs.length
  · rw [Nat.min_eq_left h]; simp
  · rw [Nat.min_eq_right (by omega), Nat.sub_zero, List.drop_zero, List.take_length, List.take_of_length_le (by omega)]
theorem atI_last {xs : List D} {x : D} : atI (xs ++ [x]) (-1) = some x := by
  unfold atI
  rw [show ixN (xs ++ [x]).length (-1) = some xs.length from ?_]
  · simp
  · unfold ixN
    rw [List.length_append]
    simp
    try omega
theorem shaped_tSs {xs : List (List Nat)} (h : ∀ x ∈ xs, Lt x) : SeqAt.shaped (.list (xs.map tS)) = true := Bool.and_eq_true_iff.mpr ⟨lay_tSs h, decide_eq_true (by
  show PyData.depthAll (xs.map tS) + 1 ≤ 64
  rw [depth_tSs]; omega)⟩
theorem ne_nil_tS {xs : List (List Nat)} (h : ∀ x ∈ xs, Lt x) : aNe (.list (xs.map tS)) (.list []) = some (.bool (!decide (xs = []))) := by
  unfold aNe
  rw [if_pos ⟨shaped_tSs h, rfl⟩]
  cases xs with
  | nil => rfl
  | cons x xs => simp [PyData.eqv, PyData.eqvAll]
theorem it1 {o : Opd} {env : DL.Env} {m : Nat} (h : runOpds [o] env = some ([.d (.int (m : Int))], env)) (hm : m ≤ 1000) : iOp rng1 [o] env = some ((List.range m).map nI, env) := by
  rw [← upTo0_nI]
  have : (m : Int).toNat = m := by omega
  rw [ev_iop, h]
  simp (disch := omega)
theorem at_nIs {q : List Nat} {i : Nat} (h : i < q.length) : atI (q.map nI) (i : Int) = some (nI (q.getD i 0)) := by
  refine atI_nat ?_
  rw [List.getElem?_map, List.getElem?_eq_getElem h, List.getD_eq_getElem?_getD, List.getElem?_eq_getElem h]
  rfl
theorem nil_tS : (PyData.str (Str.ofString "") : D) = tS [] := by rfl
theorem first_of {xs : List Nat} {a : Nat} (h : a ∈ xs) : ∃ i : Nat, xs[i]? = some a ∧ ∀ m, m < i → xs[m]? ≠ some a := by
  induction xs with
  | nil => cases h
  | cons x xs ih =>
    by_cases e : x = a
    · exact ⟨0, by rw [e]; rfl, fun m hm => absurd hm (Nat.not_lt_zero _)⟩
    · rcases List.mem_cons.mp h with q | q
      · exact absurd q.symm e
      · obtain ⟨i, h1, h2⟩ := ih q
        refine ⟨i + 1, by simpa using h1, fun m hm => ?_⟩
        cases m with
        | zero => simpa using e
        | succ m => simpa using h2 m (by omega)
theorem max_of : ∀ {xs : List Nat}, xs ≠ [] → ∃ v ∈ xs, ∀ w ∈ xs, w ≤ v
  | [], h => absurd rfl h
  | [x], _ => ⟨x, by simp, fun w hw => by rw [List.mem_singleton] at hw; omega⟩
  | x :: y :: xs, _ => by
    obtain ⟨v, h1, h2⟩ := max_of (xs := y :: xs) (by simp)
    by_cases q : x ≤ v
    · exact ⟨v, List.mem_cons_of_mem _ h1, fun w hw => by
        rcases List.mem_cons.mp hw with rfl | hw
        · exact q
        · exact h2 w hw⟩
    · exact ⟨x, by simp, fun w hw => by
        rcases List.mem_cons.mp hw with rfl | hw
        · exact Nat.le_refl _
        · have := h2 w hw; omega⟩
theorem pl_nIs (n : Nat) (xs : List Nat) (h : xs.length ≤ 1000000) : Pl (n + 1) (.list (xs.map nI)) := ⟨by rw [List.length_map]; exact h, fun x hx => by
  obtain ⟨k, _, rfl⟩ := List.mem_map.mp hx
  cases n <;> trivial⟩
theorem pl_tS (n : Nat) {v : List Nat} (h : Lt v) : Pl n (tS v) := by
  have : SeqAt.shaped (tS v) = true := shaped_tS h
  cases n <;> exact this
end G
/-! Comprehensions that draw, of any values; texts joined; texts in lists. -/
namespace G
open PySem L2 DL
/-- one value drawn for each item -/
theorem drawsG {β : Type} {g : β → D} {ns : List Int} {i : Nat} {m : DL.E} {R : D → β → Prop} {K : Nat} (Gf : List D → Option DL.S → DL.Env) (step : ∀ (cc : Nat) (p : List D) (d : D), Pool ns cc p → cc < 2 ^ 50 → ∃ v p', m (Gf p (some (.d d))) = some (g v, Gf p' (some (.d d))) ∧ R d v ∧ Pool ns (cc + K) p')
    (hb : ∀ p d, bindPat (.v i) d (Gf p none) = some (Gf p (some (.d d)))) (hc : ∀ p x, clear [i] (Gf p x) = Gf p none) :
    ∀ (ds acc : List D) (cc : Nat) (p : List D), Pool ns cc p → cc + K * ds.length < 2 ^ 50 → acc.length + ds.length ≤ 100000 →
      ∃ (t : List β) (p' : List D), Paired R ds t ∧ Pool ns (cc + K * ds.length) p' ∧ compL (.v i) [i] tTrue m ds acc (Gf p none) = some (.list (acc ++ t.map g), Gf p' none)
  | [], acc, cc, p, hp, _, _ => ⟨[], p, .nil, hp.mono (by omega), by simp⟩
  | d :: ds, acc, cc, p, hp, hcc, hl => by
    rw [List.length_cons] at hcc hl
    rw [Nat.mul_add] at hcc
    obtain ⟨v, p1, e1, hv, hp1⟩ := step cc p d hp (by omega)
    obtain ⟨t, p2, h1, h2, h3⟩ := drawsG Gf step hb hc ds (acc ++ [g v]) (cc + K) p1 hp1 (by omega) (by rw [List.length_append]; simp; omega)
    refine ⟨v :: t, p2, .cons hv h1, h2.mono (by rw [List.length_cons, Nat.mul_add]; omega), ?_⟩
    have hz : acc.length < sizeLine := Nat.lt_of_lt_of_le (show acc.length < 1000000 by omega) sizeLine_big
    rw [ev_compL1, hb, Option.bind_some, ev_tTrue, Option.bind_some, if_pos rfl, e1, Option.bind_some, if_pos hz]
    show compL _ _ _ _ ds (acc ++ [g v]) (clear [i] (Gf p1 (some (.d d)))) = _
    rw [hc, h3]
    simp
theorem strsD_tS (l : List (List Nat)) : strsD (l.map tS) = some (l.map fun w => ⟨w.toArray⟩) := by
  have := strsD_map (l.map fun w => (⟨w.toArray⟩ : Str))
  rw [List.map_map] at this
  exact this
theorem joinL_nil : ∀ l : List (List Nat), TL.joinL [] l = l.flatten
  | [] => rfl
  | [p] => by simp [TL.joinL]
  | p :: q :: r => by
    show p ++ ([] ++ TL.joinL [] (q :: r)) = _
    rw [joinL_nil (q :: r)]
    simp
theorem str_ext {a b : Str} (h : a.cps.toList = b.cps.toList) : a = b := by
  obtain ⟨x⟩ := a
  obtain ⟨y⟩ := b
  have : x = y := Array.toList_inj.mp h
  rw [this]
theorem join_nil {l : List (List Nat)} : PySem.Txt.join (Str.ofString "") (l.map fun w => (⟨w.toArray⟩ : Str)) = ⟨l.flatten.toArray⟩ := by
  rw [TL.join_eq]
  refine str_ext ?_
  have h := TL.tl_join (Str.ofString "") (l.map fun w => (⟨w.toArray⟩ : Str))
  have h0 : TL.tl (Str.ofString "") = [] := rfl
  rw [h0] at h
  refine h.trans ?_
  rw [joinL_nil, List.map_map]
  show (l.map fun w => w.toArray.toList).flatten = l.flatten.toArray.toList
  simp
theorem sum_len_S (l : List (List Nat)) : ((l.map fun w => (⟨w.toArray⟩ : Str)).map (·.length)).sum = l.flatten.length := by
  induction l with
  | nil => rfl
  | cons x l ih =>
    rw [List.map_cons, List.map_cons, List.sum_cons, ih, List.flatten_cons, List.length_append, len_S]
/-- "".join(texts) -/
theorem join_tS {m : DL.E} {env env' : DL.Env} {l : List (List Nat)} (e : m env = some (.list (l.map tS), env')) (h : l.flatten.length ≤ 1000000) : eJoin (Str.ofString "") m env = some (tS l.flatten, env') := by
  unfold eJoin
  rw [e, Option.bind_some]
  show ((strsD (l.map tS)).bind fun ys => _) = _
  have c : ((l.map fun w => (⟨w.toArray⟩ : Str)).map (·.length)).sum + (l.map fun w => (⟨w.toArray⟩ : Str)).length * (Str.ofString "").length ≤ 16777216 := by
    rw [sum_len_S]
    have : (Str.ofString "").length = 0 := rfl
    rw [this]
    omega
  rw [strsD_tS, Option.bind_some, if_pos c, join_nil]
  rfl
theorem flat_one (t : List Nat) : (t.map fun c => [c]).flatten = t := by
  induction t with
  | nil => rfl
  | cons x t ih => rw [List.map_cons, List.flatten_cons, ih]; rfl
theorem in_tS {a : List Nat} {l : List (List Nat)} (ha : Lt a) (hl : ∀ x ∈ l, Lt x) : inD (tS a) (.list (l.map tS)) = some (decide (a ∈ l)) := by
  show (if SeqAt.shaped (tS a) = true ∧ SeqAt.shaped (.list (l.map tS)) = true then some ((l.map tS).any fun z => PyData.eqv z (tS a)) else none) = _
  rw [if_pos ⟨shaped_tS ha, shaped_tSs hl⟩, List.any_map]
  congr 1
  rw [Bool.eq_iff_iff, List.any_eq_true, decide_eq_true_iff]
  constructor
  · rintro ⟨x, hx, e⟩
    have : PyData.eqv (tS x) (tS a) = true := e
    rw [eqv_tS, decide_eq_true_iff] at this
    rwa [← this]
  · intro h
    exact ⟨a, h, by show PyData.eqv (tS a) (tS a) = true; rw [eqv_tS]; simp⟩
theorem ev_in_tS {a : List Nat} {l : List (List Nat)} (ha : Lt a) (hl : ∀ x ∈ l, Lt x) : aIn (tS a) (.list (l.map tS)) = some (.bool (decide (a ∈ l))) := by unfold aIn; rw [in_tS ha hl]; rfl
theorem ev_notIn_tS {a : List Nat} {l : List (List Nat)} (ha : Lt a) (hl : ∀ x ∈ l, Lt x) : aNotIn (tS a) (.list (l.map tS)) = some (.bool (!decide (a ∈ l))) := by unfold aNotIn; rw [in_tS ha hl]; rfl
/-- a list of texts that is only read -/
theorem comp_ro {α : Type} {i j : Nat} {m : DL.E} {env : DL.Env} {l : List α} {g f : α → D} {k : Kd} (hk : k = .own ∨ k = .rw) (h0 : env[i]? = some (some (.l k (l.map g)))) (hij : i ≠ j) (hj : j < env.length) (hd : datas [j] env = true) (hl : l.length ≤ sizeLine)
    (hm : ∀ x ∈ l, m ((env.set i (some (.l .ro (l.map g)))).set j (some (.d (g x)))) = some (f x, (env.set i (some (.l .ro (l.map g)))).set j (some (.d (g x))))) :
    eRo i (eComp (iPk i) (.v j) [j] tTrue m) env = some (.list (l.map f), env) := by
  have hi := (List.getElem?_eq_some_iff.mp h0).1
  have hro : (env.set i (some (DL.S.l .ro (l.map g))))[i]? = some (some (.l .ro (l.map g))) := by rw [getElem?_set', if_pos rfl, if_pos hi]
  have c : eComp (iPk i) (.v j) [j] tTrue m (env.set i (some (.l .ro (l.map g)))) = some (.list (l.map f), env.set i (some (.l .ro (l.map g)))) := by
    refine comp_map (l := l) (g := g) (f := f) ?_ (by simpa using hj) ?_ hl hm
    · unfold iPk
      rw [hro]
    · rw [← hd]
      unfold datas
      rw [List.all_cons, List.all_cons]
      congr 1
      rw [getElem?_set', if_neg hij]
  have back : (env.set i (some (DL.S.l .ro (l.map g)))).set i (some (.l k (l.map g))) = env := by
    rw [List.set_set]
    refine List.ext_getElem? fun q => ?_
    rw [getElem?_set']
    by_cases e : i = q
    · subst e
      rw [if_pos rfl, if_pos hi, h0]
    · rw [if_neg e]
  unfold eRo
  rw [h0]
  rcases hk with rfl | rfl
  · show (eComp _ _ _ _ _ _).bind _ = _
    rw [c, Option.bind_some]
    show (match (env.set i (some (DL.S.l .ro (l.map g))))[i]? with | some (some (.l .ro ys)) => _ | _ => _) = _
    rw [hro]
    show some (_, _) = _
    rw [back]
  · show (eComp _ _ _ _ _ _).bind _ = _
    rw [c, Option.bind_some]
    show (match (env.set i (some (DL.S.l .ro (l.map g))))[i]? with | some (some (.l .ro ys)) => _ | _ => _) = _
    rw [hro]
    show some (_, _) = _
    rw [back]
end G
/-! Rules that shorten texts: steps, what they lead to. -/
namespace Lg
abbrev Tx := List Nat
abbrev Ru := Tx × Tx
def hit (l : Tx) (t : Tx) (p : Nat) : Bool := decide ((t.drop p).take l.length = l)
def lef (R : List Ru) (k : Nat) : Tx := (R.getD k ([], [])).1
def rig (R : List Ru) (k : Nat) : Tx := (R.getD k ([], [])).2
def nums (R : List Ru) (t : Tx) (p : Nat) : List Nat := (List.range R.length).filter fun k => hit (lef R k) t p
def stp (R : List Ru) (t : Tx) : List (Nat × Nat) := (List.range t.length).flatMap fun p => (nums R t p).map fun k => (p, k)
def sted (R : List Ru) (t : Tx) (s : Nat × Nat) : Tx := t.take s.1 ++ rig R s.2 ++ t.drop (s.1 + (lef R s.2).length)
def nxt (R : List Ru) (t : Tx) : List Tx := (stp R t).map (sted R t)
/-- rules shorten -/
def Short (R : List Ru) : Prop := ∀ r ∈ R, r.2.length < r.1.length
theorem mem_stp {R : List Ru} {t : Tx} {s : Nat × Nat} : s ∈ stp R t ↔ s.1 < t.length ∧ s.2 < R.length ∧ hit (lef R s.2) t s.1 = true := by
  unfold stp nums
  rw [List.mem_flatMap]
  constructor
  · rintro ⟨p, hp, h⟩
    obtain ⟨k, hk, rfl⟩ := List.mem_map.mp h
    rw [List.mem_filter] at hk
    exact ⟨List.mem_range.mp hp, List.mem_range.mp hk.1, hk.2⟩
  · rintro ⟨h1, h2, h3⟩
    exact ⟨s.1, List.mem_range.mpr h1, List.mem_map.mpr ⟨s.2, List.mem_filter.mpr ⟨List.mem_range.mpr h2, h3⟩, rfl⟩⟩
theorem get_mem {R : List Ru} {k : Nat} (h : k < R.length) : (lef R k, rig R k) ∈ R := by
  unfold lef rig
  rw [List.getD_eq_getElem?_getD, List.getElem?_eq_getElem h]
  exact List.getElem_mem h
theorem hit_len {l t : Tx} {p : Nat} (h : hit l t p = true) (h0 : l ≠ []) : p + l.length ≤ t.length := by
  have e := of_decide_eq_true h
  have := congrArg List.length e
  rw [List.length_take, List.length_drop] at this
  have : l.length ≠ 0 := fun z => h0 (List.eq_nil_of_length_eq_zero z)
  omega
theorem lef_ne {R : List Ru} (hR : Short R) {k : Nat} (h : k < R.length) : lef R k ≠ [] := fun e => by
  have := hR _ (get_mem h)
  rw [e] at this
  simp at this
theorem nxt_len {R : List Ru} (hR : Short R) {t v : Tx} (h : v ∈ nxt R t) : v.length < t.length := by
  obtain ⟨s, hs, rfl⟩ := List.mem_map.mp h
  obtain ⟨h1, h2, h3⟩ := mem_stp.mp hs
  have := hit_len h3 (lef_ne hR h2)
  have q := hR _ (get_mem h2)
  unfold sted
  simp only [List.length_append, List.length_take, List.length_drop]
  have q' : (rig R s.2).length < (lef R s.2).length := q
  omega
inductive Reach (R : List Ru) (t : Tx) : Tx → Prop
  | refl : Reach R t t
  | step {u v : Tx} : Reach R t u → v ∈ nxt R u → Reach R t v
theorem Reach.trans {R : List Ru} {t u v : Tx} (h : Reach R t u) (q : Reach R u v) : Reach R t v := by
  induction q with
  | refl => exact h
  | step _ h2 ih => exact .step ih h2
theorem Reach.len {R : List Ru} (hR : Short R) {t u : Tx} (h : Reach R t u) : u.length ≤ t.length := by
  induction h with
  | refl => exact Nat.le_refl _
  | step _ h2 ih => have := nxt_len hR h2; omega
/-- a list of texts that has just what is reached -/
structure Full (R : List Ru) (t : Tx) (K : List Tx) : Prop where
  nd : K.Nodup
  sound : ∀ w ∈ K, Reach R t w
  start : t ∈ K
  closed : ∀ w ∈ K, ∀ v ∈ nxt R w, v ∈ K
theorem Full.iff {R : List Ru} {t : Tx} {K : List Tx} (h : Full R t K) (w : Tx) : w ∈ K ↔ Reach R t w := by
  refine ⟨h.sound w, fun q => ?_⟩
  induction q with
  | refl => exact h.start
  | step _ h2 ih => exact h.closed _ ih _ h2
/-- letters -/
def Over (S : List Nat) (w : Tx) : Prop := ∀ c ∈ w, c ∈ S
theorem Over.sted {S : List Nat} {R : List Ru} (hR : ∀ r ∈ R, Over S r.2) {t : Tx} (h : Over S t) {s : Nat × Nat} (hs : s.2 < R.length) : Over S (sted R t s) := fun c hc => by
  unfold Lg.sted at hc
  rcases List.mem_append.mp hc with hc | hc
  · rcases List.mem_append.mp hc with hc | hc
    · exact h c (List.mem_of_mem_take hc)
    · exact hR _ (get_mem hs) c hc
  · exact h c (List.mem_of_mem_drop hc)
theorem Reach.over {S : List Nat} {R : List Ru} (hR : ∀ r ∈ R, Over S r.2) {t u : Tx} (h : Reach R t u) (ht : Over S t) : Over S u := by
  induction h with
  | refl => exact ht
  | step _ h2 ih =>
    obtain ⟨s, hs, rfl⟩ := List.mem_map.mp h2
    exact ih.sted hR (mem_stp.mp hs).2.1
def txs (S : List Nat) : Nat → List Tx
  | 0 => [[]]
  | n + 1 => [] :: S.flatMap fun c => (txs S n).map (c :: ·)
theorem mem_txs {S : List Nat} : ∀ {n : Nat} {w : Tx}, Over S w → w.length ≤ n → w ∈ txs S n
  | 0, w, _, h => by
    have : w = [] := List.eq_nil_of_length_eq_zero (by omega)
    rw [this]; exact List.mem_singleton.mpr rfl
  | n + 1, [], _, _ => List.mem_cons_self
  | n + 1, c :: w, ho, h => by
    refine List.mem_cons_of_mem _ (List.mem_flatMap.mpr ⟨c, ho c List.mem_cons_self, List.mem_map.mpr ⟨w, mem_txs (fun x hx => ho x (List.mem_cons_of_mem _ hx)) (by simpa using h), rfl⟩⟩)
def cnt (s : Nat) : Nat → Nat
  | 0 => 1
  | n + 1 => 1 + s * cnt s n
theorem txs_len (S : List Nat) : ∀ n, (txs S n).length = cnt S.length n
  | 0 => rfl
  | n + 1 => by
    show ([] :: _).length = 1 + S.length * cnt S.length n
    rw [List.length_cons, ← txs_len S n, List.length_flatMap]
    have : (S.map fun a => ((txs S n).map (a :: ·)).length) = S.map fun _ => (txs S n).length := List.map_congr_left fun a _ => List.length_map _
    rw [this]
    have rep : ∀ (m : Nat) (S : List Nat), (S.map fun _ => m).sum = S.length * m := fun m S => by
      induction S with
      | nil => simp
      | cons x S ih => rw [List.map_cons, List.sum_cons, ih, List.length_cons, Nat.succ_mul]; omega
    rw [rep]
    omega
theorem few {S : List Nat} {n : Nat} {K : List Tx} (hn : K.Nodup) (h : ∀ w ∈ K, Over S w ∧ w.length ≤ n) : K.length ≤ cnt S.length n := by
  rw [← txs_len S n]
  exact Pc.nodup_le hn fun w hw => mem_txs (h w hw).1 (h w hw).2
/-- two sorted lists of the same ends -/
theorem same_sorted {A B : List Tx} (ha : A.Pairwise fun a b => Pc.lt a b = true) (hb : B.Pairwise fun a b => Pc.lt a b = true) (h : ∀ w, w ∈ A ↔ w ∈ B) : A = B :=
  Pc.sorted_ext (R := fun a b => Pc.lt a b = true) (fun a => by rw [Pc.lt_irrefl]; exact Bool.false_ne_true) (fun a b c => Pc.lt_trans) ha hb h
/-- texts that differ can be sorted -/
theorem sort_nodup {A : List Tx} (h : A.Nodup) : ∃ B : List Tx, A.Perm B ∧ B.Pairwise fun a b => Pc.lt a b = true := by
  refine ⟨A.mergeSort fun a b => !Pc.lt b a, (List.mergeSort_perm _ _).symm, ?_⟩
  have p := List.pairwise_mergeSort (le := fun a b : Tx => !Pc.lt b a) (fun a b c h1 h2 => by
    simp only [Bool.not_eq_true'] at h1 h2 ⊢
    cases e : Pc.lt c a with
    | false => rfl
    | true =>
      rcases Pc.tri b a with q | q | q
      · rw [h1] at q; cases q
      · rw [q] at h2; rw [h2] at e; cases e
      · have := Pc.lt_trans e q
        rw [h2] at this; cases this) (fun a b => by
    rcases Pc.tri a b with q | q | q
    · simp [Pc.lt_asymm q]
    · simp [q, Pc.lt_irrefl]
    · simp [Pc.lt_asymm q]) A
  have n : (A.mergeSort fun a b => !Pc.lt b a).Nodup := (List.mergeSort_perm _ _).nodup_iff.mpr h
  refine List.Pairwise.imp ?_ (p.and (List.nodup_iff_pairwise_ne.mp n))
  rintro a b ⟨h1, h2⟩
  rcases Pc.tri a b with q | q | q
  · exact q
  · exact absurd q h2
  · rw [q] at h1; cases h1
end Lg
/-! Texts that steps lead to, each with the text before it and the step. -/
namespace Lg
abbrev En := Tx × Option (Tx × (Nat × Nat))
abbrev ks (E : List En) : List Tx := E.map (·.1)
def add (R : List Ru) (h : Tx) (E : List En) (s : Nat × Nat) : List En := if sted R h s ∈ ks E then E else E ++ [(sted R h s, some (h, s))]
structure Tr (R : List Ru) (t : Tx) (E : List En) : Prop where
  nd : (ks E).Nodup
  head : E[0]? = some (t, none)
  par : ∀ (i : Nat) (e : En), 0 < i → E[i]? = some e → ∃ (h : Tx) (s : Nat × Nat) (j : Nat), e.2 = some (h, s) ∧ j < i ∧ (ks E)[j]? = some h ∧ s ∈ stp R h ∧ sted R h s = e.1
theorem Tr.one (R : List Ru) (t : Tx) : Tr R t [(t, none)] := ⟨by simp [ks], rfl, fun i e hi he => by
  cases i with
  | zero => omega
  | succ i => simp at he⟩
theorem add_pre (R : List Ru) (h : Tx) (E : List En) (s : Nat × Nat) : ∃ M, add R h E s = E ++ M := by
  unfold add
  split
  · exact ⟨[], by simp⟩
  · exact ⟨_, rfl⟩
theorem adds_pre (R : List Ru) (h : Tx) : ∀ (ss : List (Nat × Nat)) (E : List En), ∃ M, ss.foldl (add R h) E = E ++ M
  | [], E => ⟨[], by simp⟩
  | s :: ss, E => by
    obtain ⟨M, e⟩ := add_pre R h E s
    obtain ⟨M', e'⟩ := adds_pre R h ss (add R h E s)
    refine ⟨M ++ M', ?_⟩
    show ss.foldl (add R h) (add R h E s) = _
    rw [e', e, List.append_assoc]
theorem ks_append (E M : List En) : ks (E ++ M) = ks E ++ ks M := List.map_append ..
theorem Tr.add {R : List Ru} {t h : Tx} {E : List En} (T : Tr R t E) {s : Nat × Nat} (hh : h ∈ ks E) (hs : s ∈ stp R h) : Tr R t (add R h E s) := by
  unfold Lg.add
  split
  · exact T
  · rename_i q
    have l0 : 0 < E.length := by
      cases E with
      | nil => cases hh
      | cons _ _ => simp
    refine ⟨?_, ?_, fun i e hi he => ?_⟩
    · rw [ks_append, List.nodup_append]
      exact ⟨T.nd, by simp [ks], fun a ha b hb e => by
        have hb : b = sted R h s := by simpa [ks] using hb
        exact q (hb ▸ e ▸ ha)⟩
    · rw [List.getElem?_append_left l0]; exact T.head
    · by_cases hl : i < E.length
      · rw [List.getElem?_append_left hl] at he
        obtain ⟨h', s', j, a1, a2, a3, a4, a5⟩ := T.par i e hi he
        refine ⟨h', s', j, a1, a2, ?_, a4, a5⟩
        rw [ks_append, List.getElem?_append_left (by rw [List.length_map]; omega)]
        exact a3
      · rw [List.getElem?_append_right (by omega)] at he
        have hi' : i = E.length := by
          cases hq : i - E.length with
          | zero => omega
          | succ n => rw [hq] at he; simp at he
        rw [hi', Nat.sub_self] at he
        have he : (sted R h s, some (h, s)) = e := by simpa using he
        subst he
        obtain ⟨j, hj, ej⟩ := List.getElem_of_mem hh
        have hj' : j < E.length := by simpa using hj
        refine ⟨h, s, j, rfl, by omega, ?_, hs, rfl⟩
        rw [ks_append, List.getElem?_append_left (by rw [List.length_map]; omega), List.getElem?_eq_getElem hj, ej]
theorem Tr.adds {R : List Ru} {t h : Tx} : ∀ {ss : List (Nat × Nat)} {E : List En}, Tr R t E → h ∈ ks E → (∀ s ∈ ss, s ∈ stp R h) → Tr R t (ss.foldl (Lg.add R h) E)
  | [], E, T, _, _ => T
  | s :: ss, E, T, hh, hs => by
    refine Tr.adds (ss := ss) (T.add hh (hs s List.mem_cons_self)) ?_ fun x hx => hs x (List.mem_cons_of_mem _ hx)
    obtain ⟨M, e⟩ := add_pre R h E s
    rw [e, ks_append]
    exact List.mem_append_left _ hh
theorem adds_mem {R : List Ru} {h : Tx} : ∀ {ss : List (Nat × Nat)} {E : List En} {s : Nat × Nat}, s ∈ ss → sted R h s ∈ ks (ss.foldl (Lg.add R h) E)
  | [], _, _, hs => by cases hs
  | s' :: ss, E, s, hs => by
    rcases List.mem_cons.mp hs with rfl | hs
    · obtain ⟨M, e⟩ := adds_pre R h ss (Lg.add R h E s)
      show sted R h s ∈ ks (ss.foldl (Lg.add R h) (Lg.add R h E s))
      rw [e, ks_append]
      refine List.mem_append_left _ ?_
      unfold Lg.add
      split
      · rename_i q; exact q
      · rw [ks_append]; exact List.mem_append_right _ (by simp [ks])
    · exact adds_mem (ss := ss) hs
theorem Tr.sound {R : List Ru} {t : Tx} {E : List En} (T : Tr R t E) : ∀ (i : Nat) (w : Tx), (ks E)[i]? = some w → Reach R t w := by
  intro i
  induction i using Nat.strongRecOn with
  | ind i ih =>
    intro w hw
    rw [List.getElem?_map] at hw
    cases he : E[i]? with
    | none => rw [he] at hw; cases hw
    | some e =>
      rw [he] at hw
      have hw : e.1 = w := by simpa using hw
      by_cases h0 : i = 0
      · subst h0
        rw [T.head] at he
        cases he
        rw [← hw]
        exact .refl
      · obtain ⟨h, s, j, a1, a2, a3, a4, a5⟩ := T.par i e (by omega) he
        rw [← hw, ← a5]
        exact .step (ih j a2 h a3) (List.mem_map.mpr ⟨s, a4, rfl⟩)
theorem Tr.reach {R : List Ru} {t : Tx} {E : List En} (T : Tr R t E) {w : Tx} (h : w ∈ ks E) : Reach R t w := by
  obtain ⟨i, hi, e⟩ := List.getElem_of_mem h
  exact T.sound i w (by rw [List.getElem?_eq_getElem hi, e])
/-- all before at have been looked at -/
def Seen (R : List Ru) (E : List En) (at' : Nat) : Prop := ∀ (j : Nat) (h : Tx), j < at' → (ks E)[j]? = some h → ∀ v ∈ nxt R h, v ∈ ks E
theorem Seen.next {R : List Ru} {E : List En} {a : Nat} {h : Tx} (S : Seen R E a) (hl : a < E.length) (hh : (ks E)[a]? = some h) : Seen R ((stp R h).foldl (Lg.add R h) E) (a + 1) := by
  intro j h' hj hh' v hv
  obtain ⟨M, e⟩ := adds_pre R h (stp R h) E
  have hjl : j < E.length := by omega
  rw [e, ks_append, List.getElem?_append_left (by rw [List.length_map]; omega)] at hh'
  by_cases q : j = a
  · subst q
    rw [hh] at hh'
    cases hh'
    obtain ⟨s, hs, rfl⟩ := List.mem_map.mp hv
    exact adds_mem hs
  · rw [e, ks_append]
    exact List.mem_append_left _ (S j h' (by omega) hh' v hv)
theorem full_of {R : List Ru} {t : Tx} {E : List En} (T : Tr R t E) (S : Seen R E E.length) : Full R t (ks E) := by
  refine ⟨T.nd, fun w hw => T.reach hw, ?_, fun w hw v hv => ?_⟩
  · have := T.head
    refine List.mem_map.mpr ⟨(t, none), List.mem_of_getElem? this, rfl⟩
  · obtain ⟨i, hi, e⟩ := List.getElem_of_mem hw
    have hi' : i < E.length := by simpa using hi
    exact S i w hi' (by rw [List.getElem?_eq_getElem hi, e]) v hv
/-! spreading, level by level -/
structure Sp (R : List Ru) (t : Tx) (K row : List Tx) (k : Nat) : Prop where
  nd : K.Nodup
  sound : ∀ w ∈ K, Reach R t w
  start : t ∈ K
  inK : ∀ w ∈ row, w ∈ K
  short : ∀ w ∈ row, w.length + k ≤ t.length
  closed : ∀ w ∈ K, w ∉ row → ∀ v ∈ nxt R w, v ∈ K
/-- one text spread: found, further -/
def spr (R : List Ru) (h : Tx) (F : List Tx × List Tx) (s : Nat × Nat) : List Tx × List Tx := if sted R h s ∈ F.1 then F else (F.1 ++ [sted R h s], F.2 ++ [sted R h s])
structure Mid (R : List Ru) (t : Tx) (k : Nat) (K0 : List Tx) (F : List Tx × List Tx) : Prop where
  nd : F.1.Nodup
  sound : ∀ w ∈ F.1, Reach R t w
  keep : ∀ w ∈ K0, w ∈ F.1
  split : ∀ w ∈ F.1, w ∈ K0 ∨ w ∈ F.2
  inK : ∀ w ∈ F.2, w ∈ F.1
  short : ∀ w ∈ F.2, w.length + (k + 1) ≤ t.length
theorem Mid.spr {R : List Ru} {t h : Tx} {k : Nat} {K0 : List Tx} {F : List Tx × List Tx} (hR : Short R) (M : Mid R t k K0 F) (hh : Reach R t h) (hk : h.length + k ≤ t.length) {s : Nat × Nat} (hs : s ∈ stp R h) : Mid R t k K0 (spr R h F s) ∧ sted R h s ∈ (spr R h F s).1 ∧ ∀ w ∈ F.1, w ∈ (spr R h F s).1 := by
  unfold Lg.spr
  split
  · rename_i q; exact ⟨M, q, fun _ h => h⟩
  · rename_i q
    have hv : sted R h s ∈ nxt R h := List.mem_map.mpr ⟨s, hs, rfl⟩
    have hl := nxt_len hR hv
    refine ⟨⟨?_, fun w hw => ?_, fun w hw => List.mem_append_left _ (M.keep w hw), fun w hw => ?_, fun w hw => ?_, fun w hw => ?_⟩, List.mem_append_right _ (List.mem_singleton.mpr rfl), fun w hw => List.mem_append_left _ hw⟩
    · rw [List.nodup_append]
      exact ⟨M.nd, by simp, fun a ha b hb e => by
        rw [List.mem_singleton] at hb
        exact q (hb ▸ e ▸ ha)⟩
    · rcases List.mem_append.mp hw with hw | hw
      · exact M.sound w hw
      · rw [List.mem_singleton] at hw; rw [hw]; exact .step hh hv
    · rcases List.mem_append.mp hw with hw | hw
      · rcases M.split w hw with z | z
        · exact .inl z
        · exact .inr (List.mem_append_left _ z)
      · exact .inr (List.mem_append_right _ hw)
    · rcases List.mem_append.mp hw with hw | hw
      · exact List.mem_append_left _ (M.inK w hw)
      · exact List.mem_append_right _ hw
    · rcases List.mem_append.mp hw with hw | hw
      · exact M.short w hw
      · rw [List.mem_singleton] at hw; rw [hw]; omega
theorem Mid.sprs {R : List Ru} {t h : Tx} {k : Nat} {K0 : List Tx} (hR : Short R) (hh : Reach R t h) (hk : h.length + k ≤ t.length) : ∀ {ss : List (Nat × Nat)} {F : List Tx × List Tx}, Mid R t k K0 F → (∀ s ∈ ss, s ∈ stp R h) →
    Mid R t k K0 (ss.foldl (Lg.spr R h) F) ∧ (∀ s ∈ ss, sted R h s ∈ (ss.foldl (Lg.spr R h) F).1) ∧ ∀ w ∈ F.1, w ∈ (ss.foldl (Lg.spr R h) F).1
  | [], F, M, _ => ⟨M, (fun _ h => by cases h), fun _ h => h⟩
  | s :: ss, F, M, hs => by
    obtain ⟨m1, m2, m3⟩ := M.spr hR hh hk (hs s List.mem_cons_self)
    obtain ⟨n1, n2, n3⟩ := Mid.sprs hR hh hk (ss := ss) m1 fun x hx => hs x (List.mem_cons_of_mem _ hx)
    refine ⟨n1, fun x hx => ?_, fun w hw => n3 w (m3 w hw)⟩
    rcases List.mem_cons.mp hx with rfl | hx
    · exact n3 _ m2
    · exact n2 x hx
def row1 (R : List Ru) (F : List Tx × List Tx) (h : Tx) : List Tx × List Tx := (stp R h).foldl (spr R h) F
theorem Mid.rows {R : List Ru} {t : Tx} {k : Nat} {K0 : List Tx} (hR : Short R) : ∀ {row : List Tx} {F : List Tx × List Tx}, Mid R t k K0 F → (∀ h ∈ row, Reach R t h ∧ h.length + k ≤ t.length) →
    Mid R t k K0 (row.foldl (row1 R) F) ∧ (∀ h ∈ row, ∀ v ∈ nxt R h, v ∈ (row.foldl (row1 R) F).1) ∧ ∀ w ∈ F.1, w ∈ (row.foldl (row1 R) F).1
  | [], F, M, _ => ⟨M, (fun _ h => by cases h), fun _ h => h⟩
  | h :: row, F, M, hr => by
    obtain ⟨m1, m2, m3⟩ := M.sprs hR (hr h List.mem_cons_self).1 (hr h List.mem_cons_self).2 (ss := stp R h) fun _ h => h
    obtain ⟨n1, n2, n3⟩ := Mid.rows hR (row := row) m1 fun x hx => hr x (List.mem_cons_of_mem _ hx)
    refine ⟨n1, fun x hx v hv => ?_, fun w hw => n3 w (m3 w hw)⟩
    rcases List.mem_cons.mp hx with rfl | hx
    · obtain ⟨s, hs, rfl⟩ := List.mem_map.mp hv
      exact n3 _ (m2 s hs)
    · exact n2 x hx v hv
theorem Sp.turn {R : List Ru} {t : Tx} {K row : List Tx} {k : Nat} (hR : Short R) (S : Sp R t K row k) : Sp R t (row.foldl (row1 R) (K, [])).1 (row.foldl (row1 R) (K, [])).2 (k + 1) := by
  have M : Mid R t k K (K, []) := ⟨S.nd, S.sound, fun _ h => h, fun _ h => .inl h, fun _ h => (by cases h), fun _ h => (by cases h)⟩
  obtain ⟨n1, n2, n3⟩ := M.rows hR (row := row) fun h hh => ⟨S.sound h (S.inK h hh), S.short h hh⟩
  refine ⟨n1.nd, n1.sound, n1.keep _ S.start, n1.inK, n1.short, fun w hw hw2 v hv => ?_⟩
  rcases n1.split w hw with z | z
  · by_cases q : w ∈ row
    · exact n2 w q v hv
    · exact n1.keep _ (S.closed w z q v hv)
  · exact absurd z hw2
theorem Sp.full {R : List Ru} {t : Tx} {K row : List Tx} {k : Nat} (S : Sp R t K row k) (hk : t.length < k) : Full R t K := by
  refine ⟨S.nd, S.sound, S.start, fun w hw v hv => S.closed w hw (fun q => ?_) v hv⟩
  have := S.short w q
  omega
end Lg
/-! k82: steps. -/
namespace G
open PySem L2 DL Lg
abbrev rD (r : Ru) : D := .tuple [tS r.1, tS r.2]
abbrev RD (R : List Ru) : D := .list (R.map rD)
abbrev sD (s : Nat × Nat) : D := .tuple [nI s.1, nI s.2]
/-- a book that the law draws -/
structure Bk (R : List Ru) : Prop where
  few : R.length ≤ 100
  lt : ∀ r ∈ R, Lt r.1 ∧ Lt r.2
  len : ∀ r ∈ R, r.1.length ≤ 1000 ∧ r.2.length ≤ 1000
theorem Bk.lef {R : List Ru} (h : Bk R) {k : Nat} (hk : k < R.length) : Lt (Lg.lef R k) ∧ (Lg.lef R k).length ≤ 1000 ∧ Lt (rig R k) ∧ (rig R k).length ≤ 1000 :=
  ⟨(h.lt _ (get_mem hk)).1, (h.len _ (get_mem hk)).1, (h.lt _ (get_mem hk)).2, (h.len _ (get_mem hk)).2⟩
theorem atR {R : List Ru} {k : Nat} (h : k < R.length) : atI (R.map rD) (k : Int) = some (.tuple [tS (Lg.lef R k), tS (rig R k)]) := by
  refine atI_nat ?_
  rw [List.getElem?_map, List.getElem?_eq_getElem h]
  unfold Lg.lef rig
  rw [List.getD_eq_getElem?_getD, List.getElem?_eq_getElem h]
  rfl
def numsK (R : List Ru) (t : Tx) (p i : Nat) : List Nat := (List.range i).filter fun k => hit (Lg.lef R k) t p
theorem numsK_succ (R : List Ru) (t : Tx) (p i : Nat) : numsK R t p (i + 1) = if hit (Lg.lef R i) t p = true then numsK R t p i ++ [i] else numsK R t p i := by
  unfold numsK
  rw [List.range_succ, List.filter_append]
  by_cases h : hit (Lg.lef R i) t p = true <;> simp [h]
/-- the steps at the places before p -/
def stpK (R : List Ru) (t : Tx) (p : Nat) : List (Nat × Nat) := (List.range p).flatMap fun p => (nums R t p).map fun k => (p, k)
theorem stpK_succ (R : List Ru) (t : Tx) (p : Nat) : stpK R t (p + 1) = stpK R t p ++ (numsK R t p R.length).map fun k => (p, k) := by
  unfold stpK numsK nums
  rw [List.range_succ, List.flatMap_append]
  simp
theorem stpK_all (R : List Ru) (t : Tx) : stpK R t t.length = stp R t := rfl
theorem numsK_le (R : List Ru) (t : Tx) (p i : Nat) : (numsK R t p i).length ≤ i := by
  have := List.length_filter_le (fun k => hit (Lg.lef R k) t p) (List.range i)
  rw [List.length_range] at this
  exact this
theorem stpK_le (R : List Ru) (t : Tx) : ∀ p, (stpK R t p).length ≤ p * R.length
  | 0 => by simp [stpK]
  | p + 1 => by
    have h1 := stpK_le R t p
    have h2 := numsK_le R t p R.length
    rw [stpK_succ, List.length_append, List.length_map, Nat.succ_mul]
    omega
theorem hit_cut {l t : Tx} {p : Nat} (h : t.length ≤ 1000) : aSlA (some (p : Int)) (some ((p : Int) + (l.length : Int))) (tS t) = some (tS ((t.drop p).take l.length)) := by
  have c := cut_tS (l := t) (lo := some (p : Int)) (hi := some ((p + l.length : Nat) : Int)) (by omega)
  rw [cut_mid, show p + l.length - p = l.length by omega] at c
  rw [← c]
  congr 2
theorem ls_core {R A L B : D} {m p k : Int} {xs : List D} {b : Bool} {s6 : Option DL.S} (ln : aLen [L] = some (.int m)) (c : aSlA (some p) (some (p + m)) A = some B) (e : aEq B L = some (.bool b)) (hz : xs.length < 1000000) :
    l_steps_1 [dS R, dS A, pS xs, dS (.int p), dS (.int k), dS L, s6] = some (.nx, [dS R, dS A, pS (if b = true then xs ++ [.tuple [.int p, .int k]] else xs), dS (.int p), dS (.int k), dS L, s6]) := by
  cases b <;> simp [l_steps_1, ln, c, e, hz]
theorem steps_in {R : List Ru} {t : Tx} (hR : Bk R) (ht : Lt t) (hn : t.length ≤ 1000) (p : Nat) (acc : List (Nat × Nat)) (ha : acc.length ≤ 200000) : ∀ (m i : Nat) (s4 s5 s6 : Option DL.S), i + m = R.length → ∃ s4' s5' s6',
    forL (.t [(.v 4), (.t [(.v 5), (.v 6)])]) l_steps_1 ((List.range' i m).map fun k => .tuple [nI k, rD (Lg.lef R k, rig R k)]) [dS (RD R), dS (tS t), pS ((acc ++ (numsK R t p i).map fun k => (p, k)).map sD), dS (nI p), s4, s5, s6] =
      some (.nx, [dS (RD R), dS (tS t), pS ((acc ++ (numsK R t p R.length).map fun k => (p, k)).map sD), dS (nI p), s4', s5', s6'])
  | 0, i, s4, s5, s6, h => ⟨s4, s5, s6, by rw [show i = R.length by omega]; rfl⟩
  | m + 1, i, s4, s5, s6, h => by
    have hk : i < R.length := by omega
    obtain ⟨l1, l2, l3, l4⟩ := hR.lef hk
    have ls := ls_core (R := RD R) (k := (i : Int)) (xs := (acc ++ (numsK R t p i).map fun k => (p, k)).map sD) (s6 := dS (tS (rig R i))) (len_tS (by omega)) (hit_cut (l := Lg.lef R i) (p := p) hn) (eq_tS ((ht.drop p).take _) l1) (by
      have := numsK_le R t p i
      have := hR.few
      rw [List.length_map, List.length_append, List.length_map]; omega)
    obtain ⟨x4, x5, x6, e⟩ := steps_in hR ht hn p acc ha m (i + 1) (dS (nI i)) (dS (tS (Lg.lef R i))) (dS (tS (rig R i))) (by omega)
    refine ⟨x4, x5, x6, ?_⟩
    rw [List.range'_succ, List.map_cons, ev_forL]
    have b1 : bindPat (.t [(.v 4), (.t [(.v 5), (.v 6)])]) (.tuple [nI i, rD (Lg.lef R i, rig R i)]) [dS (RD R), dS (tS t), pS ((acc ++ (numsK R t p i).map fun k => (p, k)).map sD), dS (nI p), s4, s5, s6] =
        some [dS (RD R), dS (tS t), pS ((acc ++ (numsK R t p i).map fun k => (p, k)).map sD), dS (nI p), dS (nI i), dS (tS (Lg.lef R i)), dS (tS (rig R i))] := by
      generalize (acc ++ (numsK R t p i).map fun k => (p, k)).map sD = X
      generalize RD R = Y
      simp
    rw [b1, Option.bind_some, ls]
    have hx : (if decide ((t.drop p).take (Lg.lef R i).length = Lg.lef R i) = true then (acc ++ (numsK R t p i).map fun k => (p, k)).map sD ++ [.tuple [.int (p : Int), .int (i : Int)]] else (acc ++ (numsK R t p i).map fun k => (p, k)).map sD) =
        (acc ++ (numsK R t p (i + 1)).map fun k => (p, k)).map sD := by
      rw [numsK_succ]
      show (if hit (Lg.lef R i) t p = true then _ else _) = _
      by_cases q : hit (Lg.lef R i) t p = true
      · rw [if_pos q, if_pos q]
        simp
      · rw [if_neg q, if_neg q]
    rw [hx]
    exact e
theorem steps_out {R : List Ru} {t : Tx} (hR : Bk R) (ht : Lt t) (hn : t.length ≤ 1000) : ∀ (m p : Nat) (s3 s4 s5 s6 : Option DL.S), p + m = t.length → ∃ s3' s4' s5' s6',
    forL (.v 3) l_steps_2 ((List.range' p m).map nI) [dS (RD R), dS (tS t), pS ((stpK R t p).map sD), s3, s4, s5, s6] = some (.nx, [dS (RD R), dS (tS t), pS ((stp R t).map sD), s3', s4', s5', s6'])
  | 0, p, s3, s4, s5, s6, h => ⟨s3, s4, s5, s6, by rw [show p = t.length by omega, stpK_all]; rfl⟩
  | m + 1, p, s3, s4, s5, s6, h => by
    have hl : (stpK R t p).length ≤ 200000 := by
      have h1 := stpK_le R t p
      have h2 : p * R.length ≤ 1000 * 100 := Nat.mul_le_mul (by omega) hR.few
      omega
    obtain ⟨y4, y5, y6, e1⟩ := steps_in hR ht hn p (stpK R t p) hl R.length 0 s4 s5 s6 (by omega)
    obtain ⟨x3, x4, x5, x6, e⟩ := steps_out hR ht hn m (p + 1) (dS (nI p)) y4 y5 y6 (by omega)
    refine ⟨x3, x4, x5, x6, ?_⟩
    rw [List.range'_succ, List.map_cons, ev_forL]
    have b1 : bindPat (.v 3) (nI p) [dS (RD R), dS (tS t), pS ((stpK R t p).map sD), s3, s4, s5, s6] = some [dS (RD R), dS (tS t), pS ((stpK R t p).map sD), dS (nI p), s4, s5, s6] := rfl
    rw [b1, Option.bind_some]
    have hen : enumD 0 (R.map rD) = (List.range' 0 R.length).map fun k => .tuple [nI k, rD (Lg.lef R k, rig R k)] := by
      rw [enumD_range rD ([], []), ← List.range_eq_range']
      refine List.map_congr_left fun k _ => ?_
      rw [Nat.zero_add]
      rfl
    have s1 : l_steps_2 [dS (RD R), dS (tS t), pS ((stpK R t p).map sD), dS (nI p), s4, s5, s6] = some (.nx, [dS (RD R), dS (tS t), pS ((stpK R t (p + 1)).map sD), dS (nI p), y4, y5, y6]) := by
      unfold l_steps_2
      rw [ev_for]
      have : iEnm (eV 0) [dS (RD R), dS (tS t), pS ((stpK R t p).map sD), dS (nI p), s4, s5, s6] = some (enumD 0 (R.map rD), [dS (RD R), dS (tS t), pS ((stpK R t p).map sD), dS (nI p), s4, s5, s6]) := rfl
      rw [this, Option.bind_some, hen, stpK_succ]
      have z : (numsK R t p 0).map (fun k => (p, k)) = [] := rfl
      rw [z, List.append_nil] at e1
      exact e1
    rw [s1]
    exact e
theorem steps_eq {R : List Ru} {t : Tx} (hR : Bk R) (ht : Lt t) (hn : t.length ≤ 1000) : f_steps [.d (RD R), .d (tS t)] = some (.list ((stp R t).map sD), [.d (RD R), .d (tS t)]) := by
  obtain ⟨x3, x4, x5, x6, e⟩ := steps_out hR ht hn t.length 0 none none none none (by omega)
  rw [← List.range_eq_range', ← upTo0_nI] at e
  have e' : forL (.v 3) l_steps_2 (DL.upTo 0 t.length) [dS (RD R), dS (tS t), some (.l .own []), none, none, none, none] = some (.nx, [dS (RD R), dS (tS t), pS ((stp R t).map sD), x3, x4, x5, x6]) := e
  have ln := len_tS (l := t) (by omega)
  generalize RD R = Y at *
  generalize (stp R t).map sD = X at *
  generalize t.length = n at *
  generalize tS t = A at *
  simp (disch := omega) [f_steps, m_steps, q_steps_1, q_steps_2, q_steps_3, ln, e']
end G
/-! k82: the law's own steps; texts behind steps. -/
namespace G
open PySem L2 DL Lg
theorem lw_core {A L L' B : D} {m p k : Int} {X xs : List D} {b : Bool} (a1 : atI X k = some (.tuple [L, L'])) (ln : aLen [L] = some (.int m)) (c : aSlA (some p) (some (p + m)) A = some B) (e : aEq B L = some (.bool b)) (hz : xs.length < 1000000) :
    l_law_steps_1 [dS (.list X), dS A, pS xs, dS (.int p), dS (.int k)] = some (.nx, [dS (.list X), dS A, pS (if b = true then xs ++ [.tuple [.int p, .int k]] else xs), dS (.int p), dS (.int k)]) := by
  cases b <;> simp [l_law_steps_1, a1, ln, c, e, hz]
theorem lsteps_in {R : List Ru} {t : Tx} (hR : Bk R) (ht : Lt t) (hn : t.length ≤ 1000) (p : Nat) (acc : List (Nat × Nat)) (ha : acc.length ≤ 200000) : ∀ (m i : Nat) (s4 : Option DL.S), i + m = R.length → ∃ s4',
    forL (.v 4) l_law_steps_1 ((List.range' i m).map nI) [dS (RD R), dS (tS t), pS ((acc ++ (numsK R t p i).map fun k => (p, k)).map sD), dS (nI p), s4] =
      some (.nx, [dS (RD R), dS (tS t), pS ((acc ++ (numsK R t p R.length).map fun k => (p, k)).map sD), dS (nI p), s4'])
  | 0, i, s4, h => ⟨s4, by rw [show i = R.length by omega]; rfl⟩
  | m + 1, i, s4, h => by
    have hk : i < R.length := by omega
    obtain ⟨l1, l2, l3, l4⟩ := hR.lef hk
    have ls := lw_core (k := (i : Int)) (xs := (acc ++ (numsK R t p i).map fun k => (p, k)).map sD) (atR hk) (len_tS (by omega)) (hit_cut (l := Lg.lef R i) (p := p) hn) (eq_tS ((ht.drop p).take _) l1) (by
      have := numsK_le R t p i
      have := hR.few
      rw [List.length_map, List.length_append, List.length_map]; omega)
    obtain ⟨x4, e⟩ := lsteps_in hR ht hn p acc ha m (i + 1) (dS (nI i)) (by omega)
    refine ⟨x4, ?_⟩
    rw [List.range'_succ, List.map_cons, ev_forL]
    have b1 : bindPat (.v 4) (nI i) [dS (RD R), dS (tS t), pS ((acc ++ (numsK R t p i).map fun k => (p, k)).map sD), dS (nI p), s4] =
        some [dS (RD R), dS (tS t), pS ((acc ++ (numsK R t p i).map fun k => (p, k)).map sD), dS (nI p), dS (nI i)] := rfl
    rw [b1, Option.bind_some, ls]
    have hx : (if decide ((t.drop p).take (Lg.lef R i).length = Lg.lef R i) = true then (acc ++ (numsK R t p i).map fun k => (p, k)).map sD ++ [.tuple [.int (p : Int), .int (i : Int)]] else (acc ++ (numsK R t p i).map fun k => (p, k)).map sD) =
        (acc ++ (numsK R t p (i + 1)).map fun k => (p, k)).map sD := by
      rw [numsK_succ]
      show (if hit (Lg.lef R i) t p = true then _ else _) = _
      by_cases q : hit (Lg.lef R i) t p = true
      · rw [if_pos q, if_pos q]
        simp
      · rw [if_neg q, if_neg q]
    rw [hx]
    exact e
theorem lsteps_out {R : List Ru} {t : Tx} (hR : Bk R) (ht : Lt t) (hn : t.length ≤ 1000) : ∀ (m p : Nat) (s3 s4 : Option DL.S), p + m = t.length → ∃ s3' s4',
    forL (.v 3) l_law_steps_2 ((List.range' p m).map nI) [dS (RD R), dS (tS t), pS ((stpK R t p).map sD), s3, s4] = some (.nx, [dS (RD R), dS (tS t), pS ((stp R t).map sD), s3', s4'])
  | 0, p, s3, s4, h => ⟨s3, s4, by rw [show p = t.length by omega, stpK_all]; rfl⟩
  | m + 1, p, s3, s4, h => by
    have hl : (stpK R t p).length ≤ 200000 := by
      have h1 := stpK_le R t p
      have h2 : p * R.length ≤ 1000 * 100 := Nat.mul_le_mul (by omega) hR.few
      omega
    obtain ⟨y4, e1⟩ := lsteps_in hR ht hn p (stpK R t p) hl R.length 0 s4 (by omega)
    obtain ⟨x3, x4, e⟩ := lsteps_out hR ht hn m (p + 1) (dS (nI p)) y4 (by omega)
    refine ⟨x3, x4, ?_⟩
    rw [List.range'_succ, List.map_cons, ev_forL]
    have b1 : bindPat (.v 3) (nI p) [dS (RD R), dS (tS t), pS ((stpK R t p).map sD), s3, s4] = some [dS (RD R), dS (tS t), pS ((stpK R t p).map sD), dS (nI p), s4] := rfl
    rw [b1, Option.bind_some]
    have s1 : l_law_steps_2 [dS (RD R), dS (tS t), pS ((stpK R t p).map sD), dS (nI p), s4] = some (.nx, [dS (RD R), dS (tS t), pS ((stpK R t (p + 1)).map sD), dS (nI p), y4]) := by
      unfold l_law_steps_2
      rw [ev_for]
      have lr : (R.map rD).length = R.length := List.length_map _
      have : iOp rng1 [(.e (eOp aLen [(.p 0)]))] [dS (RD R), dS (tS t), pS ((stpK R t p).map sD), dS (nI p), s4] = some ((List.range R.length).map nI, [dS (RD R), dS (tS t), pS ((stpK R t p).map sD), dS (nI p), s4]) := by
        refine it1 ?_ (by have := hR.few; omega)
        show runOpds _ [dS (.list (R.map rD)), _, _, _, _] = some (_, [dS (.list (R.map rD)), _, _, _, _])
        generalize R.map rD = Y at *
        simp [lr]
      rw [this, Option.bind_some, stpK_succ, List.range_eq_range']
      have z : (numsK R t p 0).map (fun k => (p, k)) = [] := rfl
      rw [z, List.append_nil] at e1
      exact e1
    rw [s1]
    exact e
theorem lsteps_eq {R : List Ru} {t : Tx} (hR : Bk R) (ht : Lt t) (hn : t.length ≤ 1000) : f_law_steps [.d (RD R), .d (tS t)] = some (.list ((stp R t).map sD), [.d (RD R), .d (tS t)]) := by
  obtain ⟨x3, x4, e⟩ := lsteps_out hR ht hn t.length 0 none none (by omega)
  rw [← List.range_eq_range', ← upTo0_nI] at e
  have e' : forL (.v 3) l_law_steps_2 (DL.upTo 0 t.length) [dS (RD R), dS (tS t), some (.l .own []), none, none] = some (.nx, [dS (RD R), dS (tS t), pS ((stp R t).map sD), x3, x4]) := e
  have ln := len_tS (l := t) (by omega)
  generalize RD R = Y at *
  generalize (stp R t).map sD = X at *
  generalize t.length = n at *
  generalize tS t = A at *
  simp (disch := omega) [f_law_steps, m_law_steps, q_law_steps_1, q_law_steps_2, q_law_steps_3, ln, e']
/-! behind a step -/
theorem st_core {A L L' P Q B C : D} {X : List D} {p k m : Int} (a1 : atI X k = some (.tuple [L, L'])) (ln : aLen [L] = some (.int m)) (c1 : aSlA none (some p) A = some P) (c2 : aSlA (some (p + m)) none A = some Q) (d1 : aAdd P L' = some B) (d2 : aAdd B Q = some C) :
    f_stepped [.d (.list X), .d A, .d (.tuple [.int p, .int k])] = some (C, [.d (.list X), .d A, .d (.tuple [.int p, .int k])]) := by
  simp [f_stepped, m_stepped, q_stepped_1, q_stepped_2, q_stepped_3, a1, ln, c1, c2, d1, d2]
theorem lst_core {A L L' P Q B C : D} {X : List D} {p k m : Int} (a1 : atI X k = some (.tuple [L, L'])) (ln : aLen [L] = some (.int m)) (c1 : aSlA none (some p) A = some P) (c2 : aSlA (some (p + m)) none A = some Q) (d1 : aAdd P L' = some B) (d2 : aAdd B Q = some C) :
    f_law_stepped [.d (.list X), .d A, .d (.tuple [.int p, .int k])] = some (C, [.d (.list X), .d A, .d (.tuple [.int p, .int k])]) := by
  simp [f_law_stepped, m_law_stepped, q_law_stepped_1, q_law_stepped_2, a1, ln, c1, c2, d1, d2]
theorem cut_over' {t : Tx} {k : Nat} (h : t.length ≤ 1000) : aSlA (some (k : Int)) none (tS t) = some (tS (t.drop k)) := by
  have c := cut_tS (l := t) (lo := some (k : Int)) (hi := none) (by omega)
  by_cases hk : k ≤ t.length
  · rw [cut_from hk] at c; exact c
  · rw [cut_over (by omega)] at c
    rw [List.drop_of_length_le (by omega)]; exact c
theorem sted_all {R : List Ru} {t : Tx} (hR : Bk R) (hn : t.length ≤ 1000) {s : Nat × Nat} (hs : s ∈ stp R t) :
    f_stepped [.d (RD R), .d (tS t), .d (sD s)] = some (tS (sted R t s), [.d (RD R), .d (tS t), .d (sD s)]) ∧ f_law_stepped [.d (RD R), .d (tS t), .d (sD s)] = some (tS (sted R t s), [.d (RD R), .d (tS t), .d (sD s)]) := by
  obtain ⟨h1, h2, h3⟩ := mem_stp.mp hs
  obtain ⟨l1, l2, l3, l4⟩ := hR.lef h2
  have c1 := cut_tS (l := t) (lo := none) (hi := some (s.1 : Int)) (by omega)
  rw [cut_upto] at c1
  have c2 := cut_over' (t := t) (k := s.1 + (Lg.lef R s.2).length) hn
  have d1 := add_tS (a := t.take s.1) (b := rig R s.2) (by rw [List.length_take]; omega)
  have d2 := add_tS (a := t.take s.1 ++ rig R s.2) (b := t.drop (s.1 + (Lg.lef R s.2).length)) (by rw [List.length_append, List.length_take, List.length_drop]; omega)
  have c2' : aSlA (some ((s.1 : Int) + ((Lg.lef R s.2).length : Int))) none (tS t) = some (tS (t.drop (s.1 + (Lg.lef R s.2).length))) := by
    rw [← c2]; congr 2
  exact ⟨st_core (atR h2) (len_tS (by omega)) c1 c2' d1 d2, lst_core (atR h2) (len_tS (by omega)) c1 c2' d1 d2⟩
end G
/-! k82: rows_to, ends. -/
namespace G
open PySem L2 DL Lg
def oD : Option (Tx × (Nat × Nat)) → D
  | none => .none
  | some (h, s) => .tuple [tS h, sD s]
abbrev kvE (E : List En) : List (D × D) := E.map fun e => (tS e.1, oD e.2)
theorem kvE_allK (E : List En) : allK (kvE E) = true := by
  refine List.all_eq_true.mpr fun x hx => ?_
  obtain ⟨e, _, rfl⟩ := List.mem_map.mp hx
  rfl
theorem kvE_has (w : Tx) : ∀ E : List En, dHas (kvE E) (kS w) = decide (w ∈ ks E)
  | [] => by simp [dHas, dVal, ks]
  | x :: E => by
    have ih := kvE_has w E
    unfold dHas at ih ⊢
    show (if keyOf (tS x.1) = some (kS w) then some (oD x.2) else dVal (kvE E) (kS w)).isSome = _
    by_cases h : x.1 = w
    · rw [if_pos (kS_inj.mpr h)]
      simp [ks, h]
    · rw [if_neg fun e => h (kS_inj.mp e), ih]
      have : (w ∈ ks (x :: E)) ↔ w ∈ ks E := by
        show w ∈ x.1 :: ks E ↔ _
        rw [List.mem_cons]
        exact ⟨fun q => q.resolve_left fun e => h e.symm, .inr⟩
      exact decide_eq_decide.mpr this.symm
theorem kvE_put {E : List En} {w : Tx} {d : Option (Tx × (Nat × Nat))} (h : w ∉ ks E) : dPut (kvE E) (kS w) (oD d) = kvE (E ++ [(w, d)]) := by
  unfold dPut
  rw [kvE_has, decide_eq_false h, if_neg Bool.false_ne_true]
  show kvE E ++ [(tS w, oD d)] = _
  simp
theorem rt_core1 {X A H W st : D} {kvs : List (D × D)} {q : List D} {K : Key} {a s7 : Option DL.S} (e : f_stepped [.d X, .d H, .d st] = some (W, [.d X, .d H, .d st])) (ky : keyOf W = some K) (ak : allK kvs = true) (h : dHas kvs K = true) :
    l_rows_to_1 [dS X, dS A, some (.m .own kvs), pS q, a, dS H, dS st, s7] = some (.nx, [dS X, dS A, some (.m .own kvs), pS q, a, dS H, dS st, dS W]) := by
  have i := ev_din (f := not) ak ky
  rw [h] at i
  simp [l_rows_to_1, q_rows_to_3, q_rows_to_4, e, i]
theorem rt_core2 {X A H W st : D} {kvs : List (D × D)} {q : List D} {K : Key} {a s7 : Option DL.S} (e : f_stepped [.d X, .d H, .d st] = some (W, [.d X, .d H, .d st])) (ky : keyOf W = some K) (ak : allK kvs = true) (h : dHas kvs K = false) (z1 : kvs.length < sizeLine) (z2 : q.length < 1000000) :
    l_rows_to_1 [dS X, dS A, some (.m .own kvs), pS q, a, dS H, dS st, s7] = some (.nx, [dS X, dS A, some (.m .own (dPut kvs K (.tuple [H, st]))), pS (q ++ [W]), a, dS H, dS st, dS W]) := by
  have i := ev_din (f := not) ak ky
  rw [h] at i
  simp [l_rows_to_1, q_rows_to_1, q_rows_to_2, q_rows_to_3, q_rows_to_4, e, i, ev_setM, ky, ak, z1, z2, wDict]
/-- what one comes to is small -/
structure Rm (R : List Ru) (t : Tx) : Prop where
  bk : Bk R
  ok : ∀ w, Reach R t w → Lt w ∧ w.length ≤ 1000
  few : ∀ K : List Tx, K.Nodup → (∀ w ∈ K, Reach R t w) → K.length ≤ 100000
theorem Rm.ents {R : List Ru} {t : Tx} (M : Rm R t) {E : List En} (T : Tr R t E) : E.length ≤ 100000 := by
  have := M.few (ks E) T.nd fun w hw => T.reach hw
  rw [List.length_map] at this
  exact this
abbrev Ert (R : List Ru) (t : Tx) (E : List En) (a : Nat) (s5 s6 s7 : Option DL.S) : DL.Env := [dS (RD R), dS (tS t), some (.m .own (kvE E)), pS ((ks E).map tS), dS (nI a), s5, s6, s7]
theorem rt_turn {R : List Ru} {t h : Tx} {E : List En} {a : Nat} {s : Nat × Nat} {s7 : Option DL.S} (M : Rm R t) (T : Tr R t E) (hh : h ∈ ks E) (hs : s ∈ stp R h) :
    l_rows_to_1 (Ert R t E a (dS (tS h)) (dS (sD s)) s7) = some (.nx, Ert R t (Lg.add R h E s) a (dS (tS h)) (dS (sD s)) (dS (tS (sted R h s)))) := by
  have hr := T.reach hh
  have hn := (M.ok h hr).2
  have e := (sted_all M.bk hn hs).1
  have hl := M.ents T
  by_cases q : sted R h s ∈ ks E
  · have := rt_core1 (A := tS t) (q := (ks E).map tS) (a := dS (nI a)) (s7 := s7) e (keyOf_tS _) (kvE_allK E) (by rw [kvE_has]; exact decide_eq_true q)
    refine this.trans ?_
    unfold Lg.add
    rw [if_pos q]
  · have := rt_core2 (A := tS t) (q := (ks E).map tS) (a := dS (nI a)) (s7 := s7) e (keyOf_tS _) (kvE_allK E) (by rw [kvE_has]; exact decide_eq_false q) (szlt (by rw [List.length_map]; omega)) (by rw [List.length_map, List.length_map]; omega)
    refine this.trans ?_
    unfold Lg.add
    rw [if_neg q]
    have p := kvE_put (d := some (h, s)) q
    have p' : dPut (kvE E) (kS (sted R h s)) (.tuple [tS h, sD s]) = kvE (E ++ [(sted R h s, some (h, s))]) := p
    have p2 : (ks (E ++ [(sted R h s, some (h, s))])).map tS = (ks E).map tS ++ [tS (sted R h s)] := by rw [ks_append, List.map_append]; rfl
    show _ = some (Out.nx, [dS (RD R), dS (tS t), some (DL.S.m .own (kvE (E ++ [(sted R h s, some (h, s))]))), pS ((ks (E ++ [(sted R h s, some (h, s))])).map tS), dS (nI a), dS (tS h), dS (sD s), dS (tS (sted R h s))])
    rw [p', p2]
where szlt {n : Nat} (h : n ≤ 999999) : n < sizeLine := lt_sizeLine (by omega)
theorem rt_inner {R : List Ru} {t h : Tx} {a : Nat} (M : Rm R t) : ∀ (ss : List (Nat × Nat)) (E : List En) (s6 s7 : Option DL.S), Tr R t E → h ∈ ks E → (∀ s ∈ ss, s ∈ stp R h) → ∃ s6' s7',
    forL (.v 6) l_rows_to_1 (ss.map sD) (Ert R t E a (dS (tS h)) s6 s7) = some (.nx, Ert R t (ss.foldl (Lg.add R h) E) a (dS (tS h)) s6' s7')
  | [], E, s6, s7, _, _, _ => ⟨s6, s7, rfl⟩
  | s :: ss, E, s6, s7, T, hh, hs => by
    have hs1 := hs s List.mem_cons_self
    have e1 := rt_turn (a := a) (s7 := s7) M T hh hs1
    obtain ⟨Mx, em⟩ := add_pre R h E s
    obtain ⟨x6, x7, e⟩ := rt_inner (h := h) (a := a) M ss (Lg.add R h E s) (dS (sD s)) (dS (tS (sted R h s))) (T.add hh hs1) (by rw [em, ks_append]; exact List.mem_append_left _ hh) fun x hx => hs x (List.mem_cons_of_mem _ hx)
    refine ⟨x6, x7, ?_⟩
    have b1 : bindPat (.v 6) (sD s) (Ert R t E a (dS (tS h)) s6 s7) = some (Ert R t E a (dS (tS h)) (dS (sD s)) s7) := rfl
    rw [List.map_cons, ev_forL, b1, Option.bind_some, e1]
    exact e
theorem rt_body {X A H : D} {kvs : List (D × D)} {q ss : List D} {a : Int} {s5 s6 s7 : Option DL.S} {env' : DL.Env} (a1 : atI q a = some H) (e1 : f_steps [.d X, .d H] = some (.list ss, [.d X, .d H]))
    (e2 : forL (.v 6) l_rows_to_1 ss [dS X, dS A, some (.m .own kvs), pS q, dS (.int (a + 1)), dS H, s6, s7] = some (.nx, env')) :
    l_rows_to_2 [dS X, dS A, some (.m .own kvs), pS q, dS (.int a), s5, s6, s7] = some (.nx, env') := by
  simp [l_rows_to_2, q_rows_to_5, q_rows_to_6, q_rows_to_7, a1, e1, e2]
theorem rt_test {X A : D} {kvs : List (D × D)} {q : List D} {a : Int} {s5 s6 s7 : Option DL.S} : t_rows_to_3 [dS X, dS A, some (.m .own kvs), pS q, dS (.int a), s5, s6, s7] = some (decide (a < (q.length : Int)), [dS X, dS A, some (.m .own kvs), pS q, dS (.int a), s5, s6, s7]) := by
  simp [t_rows_to_3]
theorem rows_eq {R : List Ru} {t : Tx} (M : Rm R t) : ∃ E, Tr R t E ∧ Seen R E E.length ∧ f_rows_to [.d (RD R), .d (tS t)] = some (.dict (kvE E), [.d (RD R), .d (tS t)]) := by
  obtain ⟨o, e', h1, h2⟩ := while_rule (t := t_rows_to_3) (m := l_rows_to_2)
    (fun env => ∃ E a s5 s6 s7, env = Ert R t E a s5 s6 s7 ∧ Tr R t E ∧ Seen R E a ∧ a ≤ E.length)
    (fun env => match env with | [_, _, _, _, some (.d (.int a)), _, _, _] => 200000 - a.toNat | _ => 0)
    (fun o env => o = .nx ∧ ∃ E s5 s6 s7, env = Ert R t E E.length s5 s6 s7 ∧ Tr R t E ∧ Seen R E E.length) (fun env ⟨E, a, s5, s6, s7, he, T, S, ha⟩ => by
      subst he
      have hq : ((ks E).map tS).length = E.length := by rw [List.length_map, List.length_map]
      have tt := rt_test (X := RD R) (A := tS t) (kvs := kvE E) (q := (ks E).map tS) (a := (a : Int)) (s5 := s5) (s6 := s6) (s7 := s7)
      rw [hq] at tt
      by_cases hl : a < E.length
      · rw [decide_eq_true (show (a : Int) < (E.length : Int) by omega)] at tt
        have hk : a < (ks E).length := by rw [List.length_map]; exact hl
        have hg : (ks E)[a]? = some (ks E)[a] := List.getElem?_eq_getElem hk
        have hm : (ks E)[a] ∈ ks E := List.getElem_mem hk
        have w := M.ok _ (T.reach hm)
        obtain ⟨x6, x7, e2⟩ := rt_inner (h := (ks E)[a]) (a := a + 1) M (stp R (ks E)[a]) E s6 s7 T hm fun _ h => h
        have a1 : atI ((ks E).map tS) (a : Int) = some (tS (ks E)[a]) := atI_nat (by rw [List.getElem?_map, hg]; rfl)
        have bd := rt_body (A := tS t) (kvs := kvE E) (s5 := s5) (s6 := s6) (s7 := s7) a1 (steps_eq M.bk w.1 w.2) e2
        refine .inr ⟨_, tt, .inl ⟨_, bd, ⟨_, a + 1, _, x6, x7, rfl, T.adds hm fun _ h => h, S.next hl hg, ?_⟩, ?_⟩⟩
        · obtain ⟨Mx, em⟩ := adds_pre R (ks E)[a] (stp R (ks E)[a]) E
          rw [em, List.length_append]; omega
        · have := M.ents T
          show 200000 - ((a + 1 : Nat) : Int).toNat < 200000 - ((a : Nat) : Int).toNat
          omega
      · rw [decide_eq_false (show ¬ (a : Int) < (E.length : Int) by omega)] at tt
        have : a = E.length := by omega
        subst this
        exact .inl ⟨_, tt, rfl, E, s5, s6, s7, rfl, T, S⟩)
    fuel (Ert R t [(t, none)] 0 none none none) ⟨_, 0, none, none, none, rfl, Tr.one R t, fun j h hj => absurd hj (Nat.not_lt_zero _), Nat.zero_le _⟩ (by
      have h1000 : (300000 : Nat) < 10 ^ 40 := by decide
      refine Nat.lt_of_le_of_lt ?_ h1000
      show 200000 - ((0 : Nat) : Int).toNat ≤ 300000
      omega)
  obtain ⟨rfl, E, s5, s6, s7, rfl, T, S⟩ := h2
  refine ⟨E, T, S, ?_⟩
  have h1' : pWhile t_rows_to_3 l_rows_to_2 fuel [dS (RD R), dS (tS t), some (.m .own [(tS t, .none)]), pS [tS t], dS (.int 0), none, none, none] = some (.nx, [dS (RD R), dS (tS t), some (.m .own (kvE E)), pS ((ks E).map tS), dS (nI E.length), s5, s6, s7]) := h1
  clear h1
  have d1 : eDct1 (eV 1) (eK .none) [dS (RD R), dS (tS t), none, none, none, none, none, none] = some (.dict [(tS t, .none)], [dS (RD R), dS (tS t), none, none, none, none, none, none]) := rfl
  generalize RD R = X at *
  generalize (ks E).map tS = Q at *
  generalize kvE E = K at *
  generalize tS t = A at *
  simp [f_rows_to, m_rows_to, q_rows_to_8, q_rows_to_9, q_rows_to_10, q_rows_to_11, q_rows_to_12, h1', d1, own]
end G
/-! k82: ends, and the law's own. -/
namespace G
open PySem L2 DL Lg
/-- the sorted list of the ends -/
structure EndsL (R : List Ru) (t : Tx) (B : List Tx) : Prop where
  up : B.Pairwise fun a b => Pc.lt a b = true
  iff : ∀ w, w ∈ B ↔ Reach R t w ∧ stp R w = []
theorem EndsL.one {R : List Ru} {t : Tx} {A B : List Tx} (a : EndsL R t A) (b : EndsL R t B) : A = B := same_sorted a.up b.up fun w => by rw [a.iff, b.iff]
theorem sort_ends {R : List Ru} {t : Tx} {K : List Tx} (M : Rm R t) (F : Full R t K) : ∃ B, EndsL R t B ∧ aSorted [.list ((K.filter fun w => decide (stp R w = [])).map tS)] = some (.list (B.map tS)) ∧ B.length ≤ 100000 := by
  obtain ⟨B, p, s⟩ := sort_nodup (A := K.filter fun w => decide (stp R w = [])) (F.nd.filter _)
  refine ⟨B, ⟨s, fun w => ?_⟩, sorted_tS (fun x hx => (M.ok x (F.sound x (List.mem_filter.mp hx).1)).1) p (s.imp fun h => Pc.lt_asymm h), ?_⟩
  · rw [← p.mem_iff, List.mem_filter, F.iff, decide_eq_true_iff]
  · rw [← p.length_eq]
    exact Nat.le_trans (List.length_filter_le _ _) (M.few K F.nd F.sound)
theorem en_test {X A W : D} {ss : List D} (e : f_steps [.d X, .d W] = some (.list ss, [.d X, .d W])) : t_ends_2 [dS X, dS A, dS W] = some (!(!ss.isEmpty), [dS X, dS A, dS W]) := by
  simp [t_ends_2, e, truD]
theorem en_elt {X A W : D} : c_ends_1 [dS X, dS A, dS W] = some (W, [dS X, dS A, dS W]) := by simp [c_ends_1]
theorem nil_dec {R : List Ru} {w : Tx} : (!(!((stp R w).map sD).isEmpty)) = decide (stp R w = []) := by
  cases stp R w <;> simp
theorem ends_eq {R : List Ru} {t : Tx} (M : Rm R t) : ∃ B, EndsL R t B ∧ f_ends [.d (RD R), .d (tS t)] = some (.list (B.map tS), [.d (RD R), .d (tS t)]) ∧ B.length ≤ 100000 := by
  obtain ⟨E, T, S, e⟩ := rows_eq M
  have F := full_of T S
  obtain ⟨B, hB, es, hl⟩ := sort_ends M F
  refine ⟨B, hB, ?_, hl⟩
  have hc : eComp (iKeysD (eCall f_rows_to [(.p 0), (.p 1)])) (.v 2) [2] t_ends_2 c_ends_1 [dS (RD R), dS (tS t), none] = some (.list (((ks E).filter fun w => decide (stp R w = [])).map tS), [dS (RD R), dS (tS t), none]) := by
    refine comp_gen (l := ks E) (g := tS) (f := tS) (P := fun w => decide (stp R w = [])) ?_ (by simp) rfl (szS (by have := M.ents T; rw [List.length_map]; omega)) (fun w hw => ?_) (fun w hw _ => en_elt)
    · have hk : (kvE E).map (·.1) = (ks E).map tS := by rw [List.map_map, List.map_map]; rfl
      rw [← hk]
      refine ev_keysD ?_ (kvE_allK E)
      generalize kvE E = K at *
      generalize RD R = X at *
      generalize tS t = A at *
      simp [e]
    · have o := M.ok w (T.reach hw)
      refine (en_test (steps_eq M.bk o.1 o.2)).trans ?_
      rw [nil_dec]
      rfl
  generalize ((ks E).filter fun w => decide (stp R w = [])).map tS = L at *
  generalize RD R = X at *
  generalize tS t = A at *
  simp [f_ends, m_ends, hc, es]
/-! the law's own -/
abbrev kvT (K : List Tx) : List (D × D) := K.map fun w => (tS w, .bool true)
theorem kvT_allK (K : List Tx) : allK (kvT K) = true := by
  refine List.all_eq_true.mpr fun x hx => ?_
  obtain ⟨e, _, rfl⟩ := List.mem_map.mp hx
  rfl
theorem kvT_has (w : Tx) : ∀ K : List Tx, dHas (kvT K) (kS w) = decide (w ∈ K)
  | [] => by simp [dHas, dVal]
  | x :: K => by
    have ih := kvT_has w K
    unfold dHas at ih ⊢
    show (if keyOf (tS x) = some (kS w) then some (.bool true) else dVal (kvT K) (kS w)).isSome = _
    by_cases h : x = w
    · rw [if_pos (kS_inj.mpr h)]
      simp [h]
    · rw [if_neg fun e => h (kS_inj.mp e), ih]
      have : (w ∈ x :: K) ↔ w ∈ K := by
        rw [List.mem_cons]
        exact ⟨fun q => q.resolve_left fun e => h e.symm, .inr⟩
      exact decide_eq_decide.mpr this.symm
theorem kvT_put {K : List Tx} {w : Tx} (h : w ∉ K) : dPut (kvT K) (kS w) (.bool true) = kvT (K ++ [w]) := by
  unfold dPut
  rw [kvT_has, decide_eq_false h, if_neg Bool.false_ne_true]
  show kvT K ++ [(tS w, .bool true)] = _
  simp
theorem sp_core1 {X A H W st : D} {kvs : List (D × D)} {q : List D} {K : Key} {z3 z4 z8 : Option DL.S} (e : f_law_stepped [.d X, .d H, .d st] = some (W, [.d X, .d H, .d st])) (ky : keyOf W = some K) (ak : allK kvs = true) (h : dHas kvs K = true) :
    l_law_spread_1 [dS X, dS A, some (.m .own kvs), z3, z4, pS q, dS H, dS st, z8] = some (.nx, [dS X, dS A, some (.m .own kvs), z3, z4, pS q, dS H, dS st, dS W]) := by
  have i := ev_din (f := not) ak ky
  rw [h] at i
  simp [l_law_spread_1, q_law_spread_3, q_law_spread_4, e, i]
theorem sp_core2 {X A H W st : D} {kvs : List (D × D)} {q : List D} {K : Key} {z3 z4 z8 : Option DL.S} (e : f_law_stepped [.d X, .d H, .d st] = some (W, [.d X, .d H, .d st])) (ky : keyOf W = some K) (ak : allK kvs = true) (h : dHas kvs K = false) (z1 : kvs.length < sizeLine) (z2 : q.length < 1000000) :
    l_law_spread_1 [dS X, dS A, some (.m .own kvs), z3, z4, pS q, dS H, dS st, z8] = some (.nx, [dS X, dS A, some (.m .own (dPut kvs K (.bool true))), z3, z4, pS (q ++ [W]), dS H, dS st, dS W]) := by
  have i := ev_din (f := not) ak ky
  rw [h] at i
  simp [l_law_spread_1, q_law_spread_1, q_law_spread_2, q_law_spread_3, q_law_spread_4, e, i, ev_setM, ky, ak, z1, z2, wDict]
abbrev Esp (R : List Ru) (t : Tx) (F : List Tx × List Tx) (z3 z4 z6 z7 z8 : Option DL.S) : DL.Env := [dS (RD R), dS (tS t), some (.m .own (kvT F.1)), z3, z4, pS (F.2.map tS), z6, z7, z8]
theorem mid_lens {R : List Ru} {t : Tx} {k : Nat} {K0 : List Tx} {F : List Tx × List Tx} (M : Rm R t) (m : Mid R t k K0 F) : F.1.length ≤ 100000 := M.few _ m.nd m.sound
theorem sp_turn {R : List Ru} {t h : Tx} {F : List Tx × List Tx} {s : Nat × Nat} {z3 z4 z8 : Option DL.S} (M : Rm R t) (l1 : F.1.length ≤ 100000) (l2 : F.2.length ≤ 100000) (hr : Lg.Reach R t h) (hs : s ∈ stp R h) :
    l_law_spread_1 (Esp R t F z3 z4 (dS (tS h)) (dS (sD s)) z8) = some (.nx, Esp R t (spr R h F s) z3 z4 (dS (tS h)) (dS (sD s)) (dS (tS (sted R h s)))) := by
  have e := (sted_all M.bk (M.ok h hr).2 hs).2
  unfold spr
  by_cases q : sted R h s ∈ F.1
  · rw [if_pos q]
    exact sp_core1 (A := tS t) (q := F.2.map tS) e (keyOf_tS _) (kvT_allK F.1) (by rw [kvT_has]; exact decide_eq_true q)
  · rw [if_neg q]
    have := sp_core2 (A := tS t) (q := F.2.map tS) (z3 := z3) (z4 := z4) (z8 := z8) e (keyOf_tS _) (kvT_allK F.1) (by rw [kvT_has]; exact decide_eq_false q) (lt_sizeLine (by rw [List.length_map]; omega)) (by rw [List.length_map]; omega)
    rw [kvT_put q] at this
    refine this.trans ?_
    show _ = some (Out.nx, [dS (RD R), dS (tS t), some (DL.S.m .own (kvT (F.1 ++ [sted R h s]))), z3, z4, pS ((F.2 ++ [sted R h s]).map tS), dS (tS h), dS (sD s), dS (tS (sted R h s))])
    rw [List.map_append (f := tS)]
    rfl
theorem spr_le {R : List Ru} {h : Tx} {F : List Tx × List Tx} {s : Nat × Nat} (l : F.2.length ≤ F.1.length) : (spr R h F s).2.length ≤ (spr R h F s).1.length := by
  unfold spr
  split
  · exact l
  · simp; omega
theorem sp_in {R : List Ru} {t h : Tx} {k : Nat} {K0 : List Tx} {z3 z4 : Option DL.S} (hS : Short R) (M : Rm R t) (hr : Lg.Reach R t h) (hk : h.length + k ≤ t.length) : ∀ (ss : List (Nat × Nat)) (F : List Tx × List Tx) (z7 z8 : Option DL.S), Mid R t k K0 F → F.2.length ≤ F.1.length → (∀ s ∈ ss, s ∈ stp R h) → ∃ z7' z8',
    forL (.v 7) l_law_spread_1 (ss.map sD) (Esp R t F z3 z4 (dS (tS h)) z7 z8) = some (.nx, Esp R t (ss.foldl (Lg.spr R h) F) z3 z4 (dS (tS h)) z7' z8') ∧ (ss.foldl (Lg.spr R h) F).2.length ≤ (ss.foldl (Lg.spr R h) F).1.length
  | [], F, z7, z8, _, hl, _ => ⟨z7, z8, rfl, hl⟩
  | s :: ss, F, z7, z8, m, hl, hs => by
    have hs1 := hs s List.mem_cons_self
    have l1 := mid_lens M m
    have e1 := sp_turn (z3 := z3) (z4 := z4) (z8 := z8) M l1 (by omega) hr hs1
    obtain ⟨x7, x8, e, hl2⟩ := sp_in (z3 := z3) (z4 := z4) hS M hr hk ss (spr R h F s) (dS (sD s)) (dS (tS (sted R h s))) (m.spr hS hr hk hs1).1 (spr_le hl) fun x hx => hs x (List.mem_cons_of_mem _ hx)
    refine ⟨x7, x8, ?_, hl2⟩
    have b1 : bindPat (.v 7) (sD s) (Esp R t F z3 z4 (dS (tS h)) z7 z8) = some (Esp R t F z3 z4 (dS (tS h)) (dS (sD s)) z8) := rfl
    rw [List.map_cons, ev_forL, b1, Option.bind_some, e1]
    exact e
theorem sp_for {X A H : D} {kvs : List (D × D)} {q ss : List D} {z3 z4 z7 z8 : Option DL.S} {env' : DL.Env} (e1 : f_law_steps [.d X, .d H] = some (.list ss, [.d X, .d H]))
    (e2 : forL (.v 7) l_law_spread_1 ss [dS X, dS A, some (.m .own kvs), z3, z4, pS q, dS H, z7, z8] = some (.nx, env')) :
    l_law_spread_2 [dS X, dS A, some (.m .own kvs), z3, z4, pS q, dS H, z7, z8] = some (.nx, env') := by
  simp [l_law_spread_2, e1, e2]
theorem sp_row {R : List Ru} {t : Tx} {k : Nat} {K0 : List Tx} {z3 z4 : Option DL.S} (hS : Short R) (M : Rm R t) : ∀ (row : List Tx) (F : List Tx × List Tx) (z6 z7 z8 : Option DL.S), Mid R t k K0 F → F.2.length ≤ F.1.length → (∀ h ∈ row, Lg.Reach R t h ∧ h.length + k ≤ t.length) → ∃ z6' z7' z8',
    forL (.v 6) l_law_spread_2 (row.map tS) (Esp R t F z3 z4 z6 z7 z8) = some (.nx, Esp R t (row.foldl (row1 R) F) z3 z4 z6' z7' z8') ∧ (row.foldl (row1 R) F).2.length ≤ (row.foldl (row1 R) F).1.length
  | [], F, z6, z7, z8, _, hl, _ => ⟨z6, z7, z8, rfl, hl⟩
  | h :: row, F, z6, z7, z8, m, hl, hr => by
    obtain ⟨r1, r2⟩ := hr h List.mem_cons_self
    obtain ⟨y7, y8, e1, hl1⟩ := sp_in (h := h) (z3 := z3) (z4 := z4) hS M r1 r2 (stp R h) F z7 z8 m hl fun _ h => h
    have o := M.ok h r1
    have e2 := sp_for (A := tS t) (lsteps_eq M.bk o.1 o.2) e1
    obtain ⟨x6, x7, x8, e, hl2⟩ := sp_row (z3 := z3) (z4 := z4) hS M row (row1 R F h) (dS (tS h)) y7 y8 (m.sprs hS r1 r2 fun _ h => h).1 hl1 fun x hx => hr x (List.mem_cons_of_mem _ hx)
    refine ⟨x6, x7, x8, ?_, hl2⟩
    have b1 : bindPat (.v 6) (tS h) (Esp R t F z3 z4 z6 z7 z8) = some (Esp R t F z3 z4 (dS (tS h)) z7 z8) := rfl
    rw [List.map_cons, ev_forL, b1, Option.bind_some, e2]
    exact e
theorem sp_body {X A : D} {kvs kvs' : List (D × D)} {q' rs : List D} {z4 z5 z6 z7 z8 y6 y7 y8 : Option DL.S} (h5 : dat z5 = true)
    (e2 : forL (.v 6) l_law_spread_2 rs [dS X, dS A, some (.m .own kvs), dS (.list rs), z4, pS [], z6, z7, z8] = some (.nx, [dS X, dS A, some (.m .own kvs'), dS (.list rs), z4, pS q', y6, y7, y8])) :
    l_law_spread_3 [dS X, dS A, some (.m .own kvs), dS (.list rs), z4, z5, z6, z7, z8] = some (.nx, [dS X, dS A, some (.m .own kvs'), dS (.list q'), z4, dS (.list q'), y6, y7, y8]) := by
  simp [l_law_spread_3, q_law_spread_5, q_law_spread_6, q_law_spread_7, e2]
theorem sp_loop {R : List Ru} {t : Tx} (hS : Short R) (M : Rm R t) : ∀ (m k : Nat) (lo : Int) (K row : List Tx) (z4 z5 z6 z7 z8 : Option DL.S), dat z5 = true → Sp R t K row k → ∃ K' row' y4 y5 y6 y7 y8,
    forL (.v 4) l_law_spread_3 (DL.upTo lo m) [dS (RD R), dS (tS t), some (.m .own (kvT K)), dS (.list (row.map tS)), z4, z5, z6, z7, z8] = some (.nx, [dS (RD R), dS (tS t), some (.m .own (kvT K')), dS (.list (row'.map tS)), y4, y5, y6, y7, y8]) ∧ Sp R t K' row' (k + m)
  | 0, k, lo, K, row, z4, z5, z6, z7, z8, _, S => ⟨K, row, z4, z5, z6, z7, z8, rfl, S⟩
  | m + 1, k, lo, K, row, z4, z5, z6, z7, z8, h5, S => by
    have m0 : Mid R t k K (K, []) := ⟨S.nd, S.sound, fun _ h => h, fun _ h => .inl h, fun _ h => (by cases h), fun _ h => (by cases h)⟩
    obtain ⟨y6, y7, y8, e1, _⟩ := sp_row (z3 := dS (.list (row.map tS))) (z4 := dS (.int lo)) hS M row (K, []) z6 z7 z8 m0 (Nat.zero_le _) fun h hh => ⟨S.sound h (S.inK h hh), S.short h hh⟩
    have e2 := sp_body (z5 := z5) h5 e1
    obtain ⟨K', row', x4, x5, x6, x7, x8, e, S'⟩ := sp_loop hS M m (k + 1) (lo + 1) _ _ (dS (.int lo)) (dS (.list ((row.foldl (row1 R) (K, [])).2.map tS))) y6 y7 y8 rfl (S.turn hS)
    refine ⟨K', row', x4, x5, x6, x7, x8, ?_, by rw [show k + (m + 1) = k + 1 + m by omega]; exact S'⟩
    have b1 : bindPat (.v 4) (.int lo) [dS (RD R), dS (tS t), some (.m .own (kvT K)), dS (.list (row.map tS)), z4, z5, z6, z7, z8] = some [dS (RD R), dS (tS t), some (.m .own (kvT K)), dS (.list (row.map tS)), dS (.int lo), z5, z6, z7, z8] := rfl
    show forL (.v 4) l_law_spread_3 (.int lo :: DL.upTo (lo + 1) m) _ = _
    rw [ev_forL, b1, Option.bind_some, e2]
    exact e
theorem spread_eq {R : List Ru} {t : Tx} (hS : Short R) (M : Rm R t) : ∃ K, Full R t K ∧ f_law_spread [.d (RD R), .d (tS t)] = some (.dict (kvT K), [.d (RD R), .d (tS t)]) := by
  have S0 : Sp R t [t] [t] 0 := ⟨by simp, fun w hw => by rw [List.mem_singleton] at hw; rw [hw]; exact .refl, by simp, fun _ h => h, fun w hw => by rw [List.mem_singleton] at hw; rw [hw]; omega, fun w hw h2 => absurd hw h2⟩
  obtain ⟨K, row, y4, y5, y6, y7, y8, e, S⟩ := sp_loop hS M (t.length + 1) 0 0 [t] [t] none none none none none rfl S0
  refine ⟨K, S.full (by omega), ?_⟩
  have hn := (M.ok t .refl).2
  have ln := len_tS (l := t) (by omega)
  have e' : forL (.v 4) l_law_spread_3 (DL.upTo 0 (t.length + 1)) [dS (RD R), dS (tS t), some (.m .own [(tS t, .bool true)]), dS (.list [tS t]), none, none, none, none, none] = some (.nx, [dS (RD R), dS (tS t), some (.m .own (kvT K)), dS (.list (row.map tS)), y4, y5, y6, y7, y8]) := e
  have d1 : eDct1 (eV 1) (eK (.bool true)) [dS (RD R), dS (tS t), none, none, none, none, none, none, none] = some (.dict [(tS t, .bool true)], [dS (RD R), dS (tS t), none, none, none, none, none, none, none]) := rfl
  have h2 : ((t.length : Int) + 1).toNat = t.length + 1 := by omega
  clear e
  generalize t.length = n at *
  generalize RD R = X at *
  generalize row.map tS = Q at *
  generalize kvT K = Y at *
  generalize tS t = A at *
  simp (disch := omega) [f_law_spread, m_law_spread, q_law_spread_8, q_law_spread_9, q_law_spread_10, q_law_spread_11, e', d1, own, ln, h2]
theorem le_test {X A W : D} {ss : List D} {b : Bool} (e : f_law_steps [.d X, .d W] = some (.list ss, [.d X, .d W])) (h : aEq (.list ss) (.list []) = some (.bool b)) : t_law_ends_2 [dS X, dS A, dS W] = some (b, [dS X, dS A, dS W]) := by
  simp [t_law_ends_2, e, h]
theorem le_elt {X A W : D} : c_law_ends_1 [dS X, dS A, dS W] = some (W, [dS X, dS A, dS W]) := by simp [c_law_ends_1]
/-! pairs of numbers compared -/
abbrev sI (s : Int × Int) : D := .tuple [.int s.1, .int s.2]
theorem eqv_int (i j : Int) : PyData.eqv (.int i) (.int j) = decide (i = j) := by
  unfold PyData.eqv
  by_cases h : i = j <;> simp [h]
theorem eqv_sI (a b : Int × Int) : PyData.eqv (sI a) (sI b) = decide (a = b) := by
  show PyData.eqvAll [.int a.1, .int a.2] [.int b.1, .int b.2] = _
  rw [PySem.W.eqv_all_cons, PySem.W.eqv_all_cons, eqv_int, eqv_int]
  obtain ⟨a1, a2⟩ := a
  obtain ⟨b1, b2⟩ := b
  by_cases h1 : a1 = b1 <;> by_cases h2 : a2 = b2 <;> simp [h1, h2, PyData.eqvAll]
theorem eqvAll_sI : ∀ a b : List (Int × Int), PyData.eqvAll (a.map sI) (b.map sI) = decide (a = b)
  | [], [] => by simp [PyData.eqvAll]
  | [], y :: b => by simp [PyData.eqvAll]
  | x :: a, [] => by simp [PyData.eqvAll]
  | x :: a, y :: b => by
    show PyData.eqvAll (sI x :: a.map sI) (sI y :: b.map sI) = _
    rw [PySem.W.eqv_all_cons, eqvAll_sI a b, eqv_sI]
    by_cases h : x = y
    · subst h; simp
    · simp [h]
theorem lay_sI (a : List (Int × Int)) : PyData.canLayAll0 (a.map sI) = true := by
  induction a with
  | nil => rfl
  | cons x a ih => show (true && PyData.canLayAll0 (a.map sI)) = true; rw [ih]; rfl
theorem depth_sI (a : List (Int × Int)) : PyData.depthAll (a.map sI) ≤ 1 := by
  induction a with
  | nil => exact Nat.zero_le _
  | cons t l ih =>
    show max (sI t).depth (PyData.depthAll (l.map sI)) ≤ 1
    exact Nat.max_le.mpr ⟨Nat.le_refl _, ih⟩
theorem shaped_sIs (a : List (Int × Int)) : SeqAt.shaped (.list (a.map sI)) = true := Bool.and_eq_true_iff.mpr ⟨lay_sI a, decide_eq_true (by
  have := depth_sI a
  show PyData.depthAll (a.map sI) + 1 ≤ 64
  omega)⟩
theorem shaped_sI (s : Int × Int) : SeqAt.shaped (sI s) = true := rfl
theorem eq_sIs (a b : List (Int × Int)) : aEq (.list (a.map sI)) (.list (b.map sI)) = some (.bool (decide (a = b))) := by
  unfold aEq; rw [if_pos ⟨shaped_sIs a, shaped_sIs b⟩]
  show some (PyData.bool (PyData.eqvAll _ _)) = _
  rw [eqvAll_sI]
theorem ne_sIs (a b : List (Int × Int)) : aNe (.list (a.map sI)) (.list (b.map sI)) = some (.bool (!decide (a = b))) := by
  unfold aNe; rw [if_pos ⟨shaped_sIs a, shaped_sIs b⟩]
  show some (PyData.bool (!PyData.eqvAll _ _)) = _
  rw [eqvAll_sI]
theorem in_sIs (a : Int × Int) (l : List (Int × Int)) : inD (sI a) (.list (l.map sI)) = some (decide (a ∈ l)) := by
  show (if SeqAt.shaped (sI a) = true ∧ SeqAt.shaped (.list (l.map sI)) = true then some ((l.map sI).any fun z => PyData.eqv z (sI a)) else none) = _
  rw [if_pos ⟨shaped_sI a, shaped_sIs l⟩, List.any_map]
  congr 1
  rw [Bool.eq_iff_iff, List.any_eq_true, decide_eq_true_iff]
  constructor
  · rintro ⟨x, hx, e⟩
    have : PyData.eqv (sI x) (sI a) = true := e
    rw [eqv_sI, decide_eq_true_iff] at this
    rwa [← this]
  · intro h
    exact ⟨a, h, by show PyData.eqv (sI a) (sI a) = true; rw [eqv_sI]; simp⟩
abbrev zI (s : Nat × Nat) : Int × Int := ((s.1 : Int), (s.2 : Int))
theorem sD_zI (l : List (Nat × Nat)) : l.map sD = (l.map zI).map sI := by rw [List.map_map]; rfl
theorem eq_nil_sD (l : List (Nat × Nat)) : aEq (.list (l.map sD)) (.list []) = some (.bool (decide (l = []))) := by
  rw [sD_zI]
  refine (eq_sIs (l.map zI) []).trans ?_
  cases l <;> simp
theorem ne_nil_sD (l : List (Nat × Nat)) : aNe (.list (l.map sD)) (.list []) = some (.bool (!decide (l = []))) := by
  rw [sD_zI]
  refine (ne_sIs (l.map zI) []).trans ?_
  cases l <;> simp
theorem lends_eq {R : List Ru} {t : Tx} (hS : Short R) (M : Rm R t) : ∃ B, EndsL R t B ∧ f_law_ends [.d (RD R), .d (tS t)] = some (.list (B.map tS), [.d (RD R), .d (tS t)]) := by
  obtain ⟨K, F, e⟩ := spread_eq hS M
  obtain ⟨B, hB, es, hl⟩ := sort_ends M F
  refine ⟨B, hB, ?_⟩
  have hc : eComp (iKeysD (eCall f_law_spread [(.p 0), (.p 1)])) (.v 2) [2] t_law_ends_2 c_law_ends_1 [dS (RD R), dS (tS t), none] = some (.list ((K.filter fun w => decide (stp R w = [])).map tS), [dS (RD R), dS (tS t), none]) := by
    refine comp_gen (l := K) (g := tS) (f := tS) (P := fun w => decide (stp R w = [])) ?_ (by simp) rfl (szS (by have := M.few K F.nd F.sound; omega)) (fun w hw => ?_) (fun w hw _ => le_elt)
    · have hk : (kvT K).map (·.1) = K.map tS := by rw [List.map_map]; rfl
      rw [← hk]
      refine ev_keysD ?_ (kvT_allK K)
      generalize kvT K = Y at *
      generalize RD R = X at *
      generalize tS t = A at *
      simp [e]
    · have o := M.ok w (F.sound w hw)
      exact le_test (lsteps_eq M.bk o.1 o.2) (eq_nil_sD _)
  generalize (K.filter fun w => decide (stp R w = [])).map tS = L at *
  generalize RD R = X at *
  generalize tS t = A at *
  simp [f_law_ends, m_law_ends, hc, es]
end G
/-! k82: set_text; rows of steps judged. -/
namespace G
open PySem L2 DL Lg
abbrev tri (R : List Ru) (s : Nat × Nat) : D := .tuple [nI s.1, .int (-((Lg.lef R s.2).length : Int)), nI s.2]
theorem tri_inj {R : List Ru} {s u : Nat × Nat} (h : tri R s = tri R u) : s = u := by
  have h := PyData.tuple.inj h
  have h1 := PyData.int.inj (List.cons.inj h).1
  have h2 := PyData.int.inj (List.cons.inj (List.cons.inj (List.cons.inj h).2).2).1
  obtain ⟨a, b⟩ := s
  obtain ⟨c, d⟩ := u
  have e1 : a = c := by have : (a : Int) = (c : Int) := h1; omega
  have e2 : b = d := by have : (b : Int) = (d : Int) := h2; omega
  rw [e1, e2]
theorem best_tri (R : List Ru) (l : List (Nat × Nat)) : bestOk (l.map (tri R)) = true := by
  unfold bestOk
  simp only [Bool.and_eq_true]
  refine ⟨⟨⟨?_, ?_⟩, decide_eq_true ?_⟩, ?_⟩
  · refine List.all_eq_true.mpr fun a ha => List.all_eq_true.mpr fun b hb => ?_
    obtain ⟨s, _, rfl⟩ := List.mem_map.mp ha
    obtain ⟨t, _, rfl⟩ := List.mem_map.mp hb
    rfl
  · refine List.all_eq_true.mpr fun a ha => ?_
    obtain ⟨s, _, rfl⟩ := List.mem_map.mp ha
    rfl
  · have : PyData.depthAll (l.map (tri R)) ≤ 1 := by
      induction l with
      | nil => exact Nat.zero_le _
      | cons t l ih =>
        show max (tri R t).depth (PyData.depthAll (l.map (tri R))) ≤ 1
        exact Nat.max_le.mpr ⟨Nat.le_refl _, ih⟩
    omega
  · induction l with
    | nil => rfl
    | cons x a ih => show (true && PyData.canLayAll0 (a.map (tri R))) = true; rw [ih]; rfl
theorem min_tri (R : List Ru) {l : List (Nat × Nat)} (h : l ≠ []) : ∃ s ∈ l, aMin [.list (l.map (tri R))] = some (tri R s) := by
  cases l with
  | nil => exact absurd rfl h
  | cons x xs =>
    have hm : PySem.W.minD (tri R x) (xs.map (tri R)) ∈ (x :: xs).map (tri R) := fold_mem PySem.W.dataLt (xs.map (tri R)) (tri R x)
    obtain ⟨s, hs, e⟩ := List.mem_map.mp hm
    refine ⟨s, hs, ?_⟩
    rw [e]
    show aBest PySem.W.minD [.list (tri R x :: xs.map (tri R))] = _
    exact if_pos (best_tri R (x :: xs))
/-- the path from the left -/
inductive Gr (R : List Ru) : Tx → List (Nat × Nat) → Tx → Prop
  | done {t : Tx} : stp R t = [] → Gr R t [] t
  | step {t e : Tx} {s : Nat × Nat} {row : List (Nat × Nat)} : s ∈ stp R t → aMin [.list ((stp R t).map (tri R))] = some (tri R s) → Gr R (sted R t s) row e → Gr R t (s :: row) e
theorem Gr.reach {R : List Ru} {t e : Tx} {row : List (Nat × Nat)} (g : Gr R t row e) : Lg.Reach R t e ∧ stp R e = [] := by
  induction g with
  | done h => exact ⟨.refl, h⟩
  | step hs _ _ ih => exact ⟨(Lg.Reach.step .refl (List.mem_map.mpr ⟨_, hs, rfl⟩)).trans ih.1, ih.2⟩
theorem fs_elt {X A L L' : D} {Xs : List D} {p k m : Int} {z2 z4 : Option DL.S} (a1 : atI Xs k = some (.tuple [L, L'])) (ln : aLen [L] = some (.int m)) : c_first_step_1 [dS (.list Xs), dS A, z2, dS (.int p), z4, dS (.int k)] = some (.tuple [.int p, .int (-m), .int k], [dS (.list Xs), dS A, z2, dS (.int p), z4, dS (.int k)]) := by
  simp [c_first_step_1, a1, ln]
theorem fs_comp {R : List Ru} {t : Tx} (hR : Bk R) (ht : Lt t) (hn : t.length ≤ 1000) : eComp (iSeq (eCall f_steps [(.p 0), (.p 1)])) (.t [(.v 3), (.v 5)]) [3, 5] tTrue c_first_step_1 [dS (RD R), dS (tS t), none, none, none, none] = some (.list ((stp R t).map (tri R)), [dS (RD R), dS (tS t), none, none, none, none]) := by
  have hl : (stp R t).length ≤ 100000 := by
    rw [← stpK_all]
    have h1 := stpK_le R t t.length
    have h2 : t.length * R.length ≤ 1000 * 100 := Nat.mul_le_mul hn hR.few
    omega
  refine comp_two (l := stp R t) (g1 := fun s => nI s.1) (g2 := fun s => nI s.2) (f := tri R) ?_ (by decide) (by simp) (by simp) rfl (szS (by omega)) fun s hs => ?_
  · have e := steps_eq hR ht hn
    have e' : f_steps [.d (RD R), .d (tS t)] = some (.list ((stp R t).map fun x => .tuple [nI x.1, nI x.2]), [.d (RD R), .d (tS t)]) := e
    generalize ((stp R t).map fun x => PyData.tuple [nI x.1, nI x.2]) = L at *
    generalize RD R = X at *
    generalize tS t = A at *
    simp [e']
  · obtain ⟨h1, h2, h3⟩ := mem_stp.mp hs
    exact fs_elt (X := .none) (atR h2) (len_tS (by have := (hR.lef h2).2.1; omega))
theorem fs_none {X A : D} (e : eComp (iSeq (eCall f_steps [(.p 0), (.p 1)])) (.t [(.v 3), (.v 5)]) [3, 5] tTrue c_first_step_1 [dS X, dS A, none, none, none, none] = some (.list [], [dS X, dS A, none, none, none, none])) :
    f_first_step [.d X, .d A] = some (.none, [.d X, .d A]) := by
  simp [f_first_step, m_first_step, q_first_step_1, q_first_step_2, e, truD]
theorem fs_some {X A a b c : D} {L : List D} (e : eComp (iSeq (eCall f_steps [(.p 0), (.p 1)])) (.t [(.v 3), (.v 5)]) [3, 5] tTrue c_first_step_1 [dS X, dS A, none, none, none, none] = some (.list L, [dS X, dS A, none, none, none, none])) (hL : L.isEmpty = false) (m : aMin [.list L] = some (.tuple [a, b, c])) :
    f_first_step [.d X, .d A] = some (.tuple [a, c], [.d X, .d A]) := by
  have hL' : ¬ L = [] := fun h => by rw [h] at hL; cases hL
  simp [f_first_step, m_first_step, q_first_step_1, q_first_step_2, q_first_step_3, q_first_step_4, e, truD, hL', hL, m]
theorem first_eq {R : List Ru} {t : Tx} (hR : Bk R) (ht : Lt t) (hn : t.length ≤ 1000) : (stp R t = [] ∧ f_first_step [.d (RD R), .d (tS t)] = some (.none, [.d (RD R), .d (tS t)])) ∨
    ∃ s ∈ stp R t, aMin [.list ((stp R t).map (tri R))] = some (tri R s) ∧ f_first_step [.d (RD R), .d (tS t)] = some (sD s, [.d (RD R), .d (tS t)]) := by
  have c := fs_comp hR ht hn
  by_cases h : stp R t = []
  · rw [h] at c
    exact .inl ⟨h, fs_none c⟩
  · obtain ⟨s, hs, m⟩ := min_tri R h
    refine .inr ⟨s, hs, m, fs_some c ?_ m⟩
    cases hq : stp R t with
    | nil => exact absurd hq h
    | cons _ _ => rfl
def optD : Option (Nat × Nat) → D
  | none => .none
  | some s => sD s
theorem set_test {X A : D} {q : List D} {o : Option (Nat × Nat)} : t_set_text_2 [dS X, dS A, pS q, dS (optD o)] = some (o.isSome, [dS X, dS A, pS q, dS (optD o)]) := by
  cases o <;> simp [t_set_text_2, optD]
theorem set_body {X A A' s s' : D} {q : List D} (hz : q.length < 1000000) (e1 : f_stepped [.d X, .d A, .d s] = some (A', [.d X, .d A, .d s])) (e2 : f_first_step [.d X, .d A'] = some (s', [.d X, .d A'])) :
    l_set_text_1 [dS X, dS A, pS q, dS s] = some (.nx, [dS X, dS A', pS (q ++ [s]), dS s']) := by
  have := lt_sizeLine hz
  simp [l_set_text_1, q_set_text_1, q_set_text_2, q_set_text_3, this, e1, e2]
/-- the walk of set_text -/
theorem set_while {R : List Ru} {t0 : Tx} (hS : Short R) (M : Rm R t0) : ∀ (n : Nat) (t : Tx) (pre : List (Nat × Nat)) (o : Option (Nat × Nat)), t.length < n → n ≤ 2000 → pre.length + t.length ≤ 2000 → Lg.Reach R t0 t → (o = none ∧ stp R t = [] ∨ ∃ s ∈ stp R t, o = some s ∧ aMin [.list ((stp R t).map (tri R))] = some (tri R s)) → ∀ k, n ≤ k →
    ∃ row e, Gr R t row e ∧ pWhile t_set_text_2 l_set_text_1 k [dS (RD R), dS (tS t), pS (pre.map sD), dS (optD o)] = some (.nx, [dS (RD R), dS (tS e), pS ((pre ++ row).map sD), dS .none])
  | 0, t, pre, o, h, _, _, _, _, _, _ => absurd h (Nat.not_lt_zero _)
  | n + 1, t, pre, o, h, hn, hp, hr, ho, 0, hk => by omega
  | n + 1, t, pre, o, h, hn, hp, hr, ho, k + 1, hk => by
    have tt := set_test (X := RD R) (A := tS t) (q := pre.map sD) (o := o)
    rcases ho with ⟨rfl, h0⟩ | ⟨s, hs, rfl, hm⟩
    · refine ⟨[], t, .done h0, ?_⟩
      have tt' : t_set_text_2 [dS (RD R), dS (tS t), pS (pre.map sD), dS (optD none)] = some (false, [dS (RD R), dS (tS t), pS (pre.map sD), dS (optD none)]) := tt
      unfold pWhile
      rw [tt', Option.bind_some]
      simp [optD]
    · have ok := M.ok t hr
      have hv : sted R t s ∈ nxt R t := List.mem_map.mpr ⟨s, hs, rfl⟩
      have hr2 : Lg.Reach R t0 (sted R t s) := .step hr hv
      have ok2 := M.ok _ hr2
      have hl := nxt_len hS hv
      obtain ⟨o', hf, ho'⟩ : ∃ o', f_first_step [.d (RD R), .d (tS (sted R t s))] = some (optD o', [.d (RD R), .d (tS (sted R t s))]) ∧ (o' = none ∧ stp R (sted R t s) = [] ∨ ∃ u ∈ stp R (sted R t s), o' = some u ∧ aMin [.list ((stp R (sted R t s)).map (tri R))] = some (tri R u)) := by
        rcases first_eq M.bk ok2.1 ok2.2 with ⟨h1, h2⟩ | ⟨u, h1, h2, h3⟩
        · exact ⟨none, h2, .inl ⟨rfl, h1⟩⟩
        · exact ⟨some u, h3, .inr ⟨u, h1, rfl, h2⟩⟩
      have bd := set_body (q := pre.map sD) (by rw [List.length_map]; omega) (sted_all M.bk ok.2 hs).1 hf
      obtain ⟨row, e, g, w⟩ := set_while hS M n (sted R t s) (pre ++ [s]) o' (by omega) (by omega) (by rw [List.length_append]; simp; omega) hr2 ho' k (by omega)
      refine ⟨s :: row, e, .step hs hm g, ?_⟩
      have tt' : t_set_text_2 [dS (RD R), dS (tS t), pS (pre.map sD), dS (optD (some s))] = some (true, [dS (RD R), dS (tS t), pS (pre.map sD), dS (optD (some s))]) := tt
      have bd' : l_set_text_1 [dS (RD R), dS (tS t), pS (pre.map sD), dS (optD (some s))] = some (.nx, [dS (RD R), dS (tS (sted R t s)), pS ((pre ++ [s]).map sD), dS (optD o')]) := by
        rw [List.map_append]
        exact bd
      unfold pWhile
      rw [tt', Option.bind_some, if_pos rfl, bd']
      rw [List.append_assoc] at w
      exact w
theorem set_core {X A A' : D} {o : D} {q : List D} (e1 : f_first_step [.d X, .d A] = some (o, [.d X, .d A])) (e2 : pWhile t_set_text_2 l_set_text_1 fuel [dS X, dS A, pS [], dS o] = some (.nx, [dS X, dS A', pS q, dS .none])) :
    m_set_text [dS X, dS A, none, none] = some (.rt (.tuple [A', .list q]), [dS X, dS A', dS (.list q), dS .none]) := by
  simp [m_set_text, q_set_text_4, q_set_text_5, q_set_text_6, q_set_text_7, e1, e2]
theorem set_eq {R : List Ru} {t : Tx} (hS : Short R) (M : Rm R t) : ∃ row e, Gr R t row e ∧ f_set_text [.d (RD R), .d (tS t)] = some (.tuple [tS e, .list (row.map sD)], [.d (RD R), .d (tS t)]) := by
  have ok := M.ok t .refl
  obtain ⟨o, hf, ho⟩ : ∃ o, f_first_step [.d (RD R), .d (tS t)] = some (optD o, [.d (RD R), .d (tS t)]) ∧ (o = none ∧ stp R t = [] ∨ ∃ u ∈ stp R t, o = some u ∧ aMin [.list ((stp R t).map (tri R))] = some (tri R u)) := by
    rcases first_eq M.bk ok.1 ok.2 with ⟨h1, h2⟩ | ⟨u, h1, h2, h3⟩
    · exact ⟨none, h2, .inl ⟨rfl, h1⟩⟩
    · exact ⟨some u, h3, .inr ⟨u, h1, rfl, h2⟩⟩
  obtain ⟨row, e, g, w⟩ := set_while hS M (t.length + 1) t [] o (by omega) (by omega) (by simp; omega) .refl ho fuel (by
    have h : (2000 : Nat) ≤ 10 ^ 40 := by decide
    have : fuel = 10 ^ 40 := rfl
    omega)
  refine ⟨row, e, g, ?_⟩
  have c := set_core hf w
  show fnD 4 m_set_text _ = _
  rw [ev_fn]
  have hh : ([DL.S.d (RD R), .d (tS t)].map some ++ List.replicate (4 - [DL.S.d (RD R), .d (tS t)].length) none : DL.Env) = [dS (RD R), dS (tS t), none, none] := rfl
  rw [hh, c]
  rfl
end G
/-! k82: rows of steps judged. -/
namespace G
open PySem L2 DL Lg
abbrev nat2 (s : Int × Int) : Nat × Nat := (s.1.toNat, s.2.toNat)
def ledL (R : List Ru) : Tx → List (Int × Int) → Option Tx
  | t, [] => some t
  | t, s :: row => if s ∈ (stp R t).map zI then ledL R (sted R t (nat2 s)) row else none
def optT : Option Tx → D
  | none => .none
  | some w => tS w
theorem mem_zI {l : List (Nat × Nat)} {s : Int × Int} (h : s ∈ l.map zI) : nat2 s ∈ l ∧ sI s = sD (nat2 s) := by
  obtain ⟨n, hn, rfl⟩ := List.mem_map.mp h
  have : nat2 (zI n) = n := by
    obtain ⟨a, b⟩ := n
    show (((a : Int).toNat), ((b : Int).toNat)) = (a, b)
    simp
  rw [this]
  exact ⟨hn, rfl⟩
theorem notIn_sD (s : Int × Int) (l : List (Nat × Nat)) : aNotIn (sI s) (.list (l.map sD)) = some (.bool (!decide (s ∈ l.map zI))) := by
  unfold aNotIn
  rw [sD_zI, in_sIs]
  rfl
/-! led_by -/
theorem lb_no {X A Rw : D} {ts ss : List D} {s : D} (hs : s = .tuple ts) (e : f_steps [.d X, .d A] = some (.list ss, [.d X, .d A])) (h : aNotIn s (.list ss) = some (.bool true)) : l_led_by_1 [dS X, dS A, dS Rw, dS s] = some (.rt .none, [dS X, dS A, dS Rw, dS s]) := by
  subst hs
  simp [l_led_by_1, q_led_by_1, e, h]
theorem lb_yes {X A A' Rw : D} {ts ss : List D} {s : D} (hs : s = .tuple ts) (e : f_steps [.d X, .d A] = some (.list ss, [.d X, .d A])) (h : aNotIn s (.list ss) = some (.bool false)) (e2 : f_stepped [.d X, .d A, .d s] = some (A', [.d X, .d A, .d s])) : l_led_by_1 [dS X, dS A, dS Rw, dS s] = some (.nx, [dS X, dS A', dS Rw, dS s]) := by
  subst hs
  simp [l_led_by_1, q_led_by_1, q_led_by_2, e, h, e2]
def endO (X Rw : D) (o : Option Tx) (t : Tx) (z : Option DL.S) : Out × DL.Env := match o with
  | none => (.rt .none, [dS X, dS (tS t), dS Rw, z])
  | some w => (.nx, [dS X, dS (tS w), dS Rw, z])
theorem led_loop {R : List Ru} {t0 : Tx} {Rw : D} (M : Rm R t0) : ∀ (row : List (Int × Int)) (t : Tx) (z : Option DL.S), Lg.Reach R t0 t → ∃ t' z', forL (.v 3) l_led_by_1 (row.map sI) [dS (RD R), dS (tS t), dS Rw, z] = some (endO (RD R) Rw (ledL R t row) t' z')
  | [], t, z, _ => ⟨t, z, rfl⟩
  | s :: row, t, z, hr => by
    have ok := M.ok t hr
    have e := steps_eq M.bk ok.1 ok.2
    have h := notIn_sD s (stp R t)
    have b1 : bindPat (.v 3) (sI s) [dS (RD R), dS (tS t), dS Rw, z] = some [dS (RD R), dS (tS t), dS Rw, dS (sI s)] := rfl
    by_cases q : s ∈ (stp R t).map zI
    · obtain ⟨h1, h2⟩ := mem_zI q
      rw [decide_eq_true q] at h
      have hv : sted R t (nat2 s) ∈ nxt R t := List.mem_map.mpr ⟨_, h1, rfl⟩
      have e2 := (sted_all M.bk ok.2 h1).1
      rw [← h2] at e2
      obtain ⟨t', z', w⟩ := led_loop (Rw := Rw) M row (sted R t (nat2 s)) (dS (sI s)) (.step hr hv)
      refine ⟨t', z', ?_⟩
      have s1 := lb_yes (Rw := Rw) (s := sI s) rfl e h e2
      rw [List.map_cons, ev_forL, b1, Option.bind_some, s1]
      have hl : ledL R t (s :: row) = ledL R (sted R t (nat2 s)) row := if_pos q
      rw [hl]
      exact w
    · rw [decide_eq_false q] at h
      have s1 := lb_no (Rw := Rw) (s := sI s) rfl e h
      refine ⟨t, dS (sI s), ?_⟩
      rw [List.map_cons, ev_forL, b1, Option.bind_some, s1]
      have hl : ledL R t (s :: row) = none := if_neg q
      rw [hl]
      rfl
theorem led_eq {R : List Ru} {t : Tx} (M : Rm R t) (row : List (Int × Int)) : f_led_by [.d (RD R), .d (tS t), .d (.list (row.map sI))] = some (optT (ledL R t row), [.d (RD R), .d (tS t), .d (.list (row.map sI))]) := by
  obtain ⟨t', z', e⟩ := led_loop (Rw := .list (row.map sI)) M row t none .refl
  cases h : ledL R t row with
  | none =>
    rw [h] at e
    have e' : forL (.v 3) l_led_by_1 (row.map sI) [dS (RD R), dS (tS t), dS (.list (row.map sI)), none] = some (.rt .none, [dS (RD R), dS (tS t'), dS (.list (row.map sI)), z']) := e
    show _ = some (PyData.none, _)
    clear e
    generalize RD R = X at *
    generalize row.map sI = Rw at *
    generalize tS t = A at *
    generalize tS t' = A' at *
    simp [f_led_by, m_led_by, q_led_by_3, q_led_by_4, e']
  | some w =>
    rw [h] at e
    have e' : forL (.v 3) l_led_by_1 (row.map sI) [dS (RD R), dS (tS t), dS (.list (row.map sI)), none] = some (.nx, [dS (RD R), dS (tS w), dS (.list (row.map sI)), z']) := e
    show _ = some (tS w, _)
    clear e
    generalize RD R = X at *
    generalize row.map sI = Rw at *
    generalize tS t = A at *
    generalize tS w = A' at *
    simp [f_led_by, m_led_by, q_led_by_3, q_led_by_4, e']
/-! the law's own -/
theorem ll_no {X A Rw : D} {ss : List D} {s : D} (e : f_law_steps [.d X, .d A] = some (.list ss, [.d X, .d A])) (h : aNotIn s (.list ss) = some (.bool true)) : l_law_led_1 [dS X, dS A, dS Rw, dS s] = some (.rt .none, [dS X, dS A, dS Rw, dS s]) := by
  simp [l_law_led_1, q_law_led_1, e, h]
theorem ll_yes {X A A' Rw : D} {ss : List D} {s : D} (e : f_law_steps [.d X, .d A] = some (.list ss, [.d X, .d A])) (h : aNotIn s (.list ss) = some (.bool false)) (e2 : f_law_stepped [.d X, .d A, .d s] = some (A', [.d X, .d A, .d s])) : l_law_led_1 [dS X, dS A, dS Rw, dS s] = some (.nx, [dS X, dS A', dS Rw, dS s]) := by
  simp [l_law_led_1, q_law_led_1, q_law_led_2, e, h, e2]
theorem lled_loop {R : List Ru} {t0 : Tx} {Rw : D} (M : Rm R t0) : ∀ (row : List (Int × Int)) (t : Tx) (z : Option DL.S), Lg.Reach R t0 t → ∃ t' z', forL (.v 3) l_law_led_1 (row.map sI) [dS (RD R), dS (tS t), dS Rw, z] = some (endO (RD R) Rw (ledL R t row) t' z')
  | [], t, z, _ => ⟨t, z, rfl⟩
  | s :: row, t, z, hr => by
    have ok := M.ok t hr
    have e := lsteps_eq M.bk ok.1 ok.2
    have h := notIn_sD s (stp R t)
    have b1 : bindPat (.v 3) (sI s) [dS (RD R), dS (tS t), dS Rw, z] = some [dS (RD R), dS (tS t), dS Rw, dS (sI s)] := rfl
    by_cases q : s ∈ (stp R t).map zI
    · obtain ⟨h1, h2⟩ := mem_zI q
      rw [decide_eq_true q] at h
      have hv : sted R t (nat2 s) ∈ nxt R t := List.mem_map.mpr ⟨_, h1, rfl⟩
      have e2 := (sted_all M.bk ok.2 h1).2
      rw [← h2] at e2
      obtain ⟨t', z', w⟩ := lled_loop (Rw := Rw) M row (sted R t (nat2 s)) (dS (sI s)) (.step hr hv)
      refine ⟨t', z', ?_⟩
      have s1 := ll_yes (Rw := Rw) (s := sI s) e h e2
      rw [List.map_cons, ev_forL, b1, Option.bind_some, s1]
      have hl : ledL R t (s :: row) = ledL R (sted R t (nat2 s)) row := if_pos q
      rw [hl]
      exact w
    · rw [decide_eq_false q] at h
      have s1 := ll_no (Rw := Rw) (s := sI s) e h
      refine ⟨t, dS (sI s), ?_⟩
      rw [List.map_cons, ev_forL, b1, Option.bind_some, s1]
      have hl : ledL R t (s :: row) = none := if_neg q
      rw [hl]
      rfl
theorem lled_eq {R : List Ru} {t : Tx} (M : Rm R t) (row : List (Int × Int)) : f_law_led [.d (RD R), .d (tS t), .d (.list (row.map sI))] = some (optT (ledL R t row), [.d (RD R), .d (tS t), .d (.list (row.map sI))]) := by
  obtain ⟨t', z', e⟩ := lled_loop (Rw := .list (row.map sI)) M row t none .refl
  cases h : ledL R t row with
  | none =>
    rw [h] at e
    have e' : forL (.v 3) l_law_led_1 (row.map sI) [dS (RD R), dS (tS t), dS (.list (row.map sI)), none] = some (.rt .none, [dS (RD R), dS (tS t'), dS (.list (row.map sI)), z']) := e
    show _ = some (PyData.none, _)
    clear e
    generalize RD R = X at *
    generalize row.map sI = Rw at *
    generalize tS t = A at *
    generalize tS t' = A' at *
    simp [f_law_led, m_law_led, q_law_led_3, q_law_led_4, e']
  | some w =>
    rw [h] at e
    have e' : forL (.v 3) l_law_led_1 (row.map sI) [dS (RD R), dS (tS t), dS (.list (row.map sI)), none] = some (.nx, [dS (RD R), dS (tS w), dS (.list (row.map sI)), z']) := e
    show _ = some (tS w, _)
    clear e
    generalize RD R = X at *
    generalize row.map sI = Rw at *
    generalize tS t = A at *
    generalize tS w = A' at *
    simp [f_law_led, m_law_led, q_law_led_3, q_law_led_4, e']
theorem eq_optT {o : Option Tx} {e : Tx} (ho : ∀ w, o = some w → Lt w) (he : Lt e) : aEq (optT o) (tS e) = some (.bool (decide (o = some e))) := by
  cases o with
  | none =>
    unfold aEq
    rw [if_pos ⟨rfl, shaped_tS he⟩]
    rfl
  | some w =>
    refine (eq_tS (ho w rfl) he).trans ?_
    congr 2
    exact decide_eq_decide.mpr ⟨fun h => by rw [h], fun h => Option.some.inj h⟩
theorem ledL_reach {R : List Ru} {t0 : Tx} : ∀ {row : List (Int × Int)} {t w : Tx}, Lg.Reach R t0 t → ledL R t row = some w → Lg.Reach R t0 w
  | [], t, w, hr, h => by cases h; exact hr
  | s :: row, t, w, hr, h => by
    by_cases q : s ∈ (stp R t).map zI
    · have hl : ledL R t (s :: row) = ledL R (sted R t (nat2 s)) row := if_pos q
      rw [hl] at h
      exact ledL_reach (.step hr (List.mem_map.mpr ⟨_, (mem_zI q).1, rfl⟩)) h
    · have hl : ledL R t (s :: row) = none := if_neg q
      rw [hl] at h; cases h
theorem jr_core {X A Rw E O : D} {ss : List D} {b : Bool} (e1 : f_led_by [.d X, .d A, .d Rw] = some (O, [.d X, .d A, .d Rw])) (h : aEq O E = some (.bool b)) (e2 : f_steps [.d X, .d E] = some (.list ss, [.d X, .d E])) :
    f_judge_row [.d X, .d A, .d Rw, .d E] = some (.bool (b && ss.isEmpty), [.d X, .d A, .d Rw, .d E]) := by
  cases b <;> simp [f_judge_row, m_judge_row, e1, h, e2, eNotT, truD]
def judg (R : List Ru) (t : Tx) (row : List (Int × Int)) (e : Tx) : Bool := decide (ledL R t row = some e) && decide (stp R e = [])
theorem judge_eq {R : List Ru} {t e : Tx} (M : Rm R t) (he : Lt e) (hn : e.length ≤ 1000) (row : List (Int × Int)) : f_judge_row [.d (RD R), .d (tS t), .d (.list (row.map sI)), .d (tS e)] = some (.bool (judg R t row e), [.d (RD R), .d (tS t), .d (.list (row.map sI)), .d (tS e)]) := by
  have := jr_core (led_eq M row) (eq_optT (fun w h => (M.ok w (ledL_reach .refl h)).1) he) (steps_eq M.bk he hn)
  refine this.trans ?_
  unfold judg
  congr 4
  cases stp R e <;> simp
end G
/-! k82: texts and books that the law draws. -/
namespace G
open PySem L2 DL Lg
def abc : List Nat := [97, 98, 99]
theorem abc_lt {w : Tx} (h : Over abc w) : Lt w := fun c hc => by
  have : ∀ c ∈ abc, c < 128 := by decide
  exact this c (h c hc)
def alph : List Tx := [[97, 98], [97, 98], [97, 98, 99]]
theorem alph_eq : alph.map tS = [.str (Str.ofString "ab"), .str (Str.ofString "ab"), .str (Str.ofString "abc")] := rfl
theorem ld_core {p p' : List D} {z1 : Option DL.S} {A C x : D} {n r : Int} (ln : aLen [A] = some (.int n)) (e : f_law_draw [.l .rw p, .d (.int n)] = some (.int r, [.l .rw p', .d (.int n)])) (ix : aIx A (.int r) = some C) :
    c_law_letters_drawn_1 [some (.l .rw p), z1, dS A, dS x] = some (C, [some (.l .rw p'), z1, dS A, dS x]) := by
  simp [c_law_letters_drawn_1, ln, e, ix]
theorem ld_elt {ns : List Int} {c : Nat} {p : List D} {z1 : Option DL.S} {x : D} {a : Tx} (hb : Bits ns) (hp : Pool ns c p) (hc : c < 2 ^ 50) (ha : Over abc a) (h0 : 0 < a.length) (h1 : a.length ≤ 100) :
    ∃ v p', c_law_letters_drawn_1 [some (.l .rw p), z1, dS (tS a), dS x] = some (tS [v], [some (.l .rw p'), z1, dS (tS a), dS x]) ∧ v ∈ abc ∧ Pool ns (c + 1) p' := by
  obtain ⟨r, p1, e, r0, r1, hp1⟩ := draw_eq hb hp (by omega) (l := (a.length : Int)) (by omega) (by omega)
  have hr : r.toNat < a.length := by omega
  have ix := ix_tS hr (by omega)
  rw [Int.toNat_of_nonneg r0] at ix
  refine ⟨a.getD r.toNat 0, p1, ld_core (len_tS (by omega)) e ix, ?_, hp1⟩
  rw [List.getD_eq_getElem?_getD, List.getElem?_eq_getElem hr]
  exact ha _ (List.getElem_mem _)
theorem ld_end {p p1 p2 : List D} {A R : D} {m : Int} (e1 : f_law_pick [.l .rw p, .d (.list [.str (Str.ofString "ab"), .str (Str.ofString "ab"), .str (Str.ofString "abc")])] = some (A, [.l .rw p1, .d (.list [.str (Str.ofString "ab"), .str (Str.ofString "ab"), .str (Str.ofString "abc")])]))
    (e2 : eJoin (Str.ofString "") (eComp (iOp rng1 [(.e (eCall f_law_draw [(.p 0), (.e (eOp2 aAdd (.p 1) (.e (eK (.int 1)))))]))]) (.v 3) [3] tTrue c_law_letters_drawn_1) [some (.l .rw p1), dS (.int m), dS A, none] = some (R, [some (.l .rw p2), dS (.int m), dS A, none])) :
    f_law_letters_drawn [.l .rw p, .d (.int m)] = some (R, [.l .rw p2, .d (.int m)]) := by
  simp [f_law_letters_drawn, m_law_letters_drawn, q_law_letters_drawn_1, q_law_letters_drawn_2, e1, e2]
theorem letters_drawn {ns : List Int} {c : Nat} {p : List D} {most : Nat} (hb : Bits ns) (hp : Pool ns c p) (hc : c < 2 ^ 48) (hm : most ≤ 100) :
    ∃ w p', f_law_letters_drawn [.l .rw p, .d (.int (most : Int))] = some (tS w, [.l .rw p', .d (.int (most : Int))]) ∧ Over abc w ∧ w.length ≤ most ∧ Pool ns (c + 200) p' := by
  obtain ⟨A, p1, e1, hA, hp1⟩ := pick_eq hb hp (by omega) (opts := alph.map tS) (by decide) (by decide)
  obtain ⟨a, ha, rfl⟩ := List.mem_map.mp hA
  have ha3 : Over abc a ∧ 0 < a.length ∧ a.length ≤ 100 := by
    have : ∀ s ∈ alph, (∀ c ∈ s, c ∈ abc) ∧ 0 < s.length ∧ s.length ≤ 100 := by decide
    exact this a ha
  obtain ⟨r, p2, e2, r0, r1, hp2⟩ := draw_eq hb hp1 (by omega) (l := ((most : Int) + 1)) (by omega) (by omega)
  obtain ⟨t, p3, h1, h2, h3⟩ := drawsG (g := fun v => tS [v]) (R := fun _ v => v ∈ abc) (K := 1) (i := 3) (m := c_law_letters_drawn_1) (fun p x => [some (.l .rw p), dS (.int (most : Int)), dS (tS a), x])
    (fun cc p d hp hcc => ld_elt hb hp hcc ha3.1 ha3.2.1 ha3.2.2) (fun p d => rfl) (fun p x => rfl) (DL.upTo 0 r.toNat) [] (c + 2) p2 (hp2.mono (by omega)) (by rw [upTo_length]; omega) (by rw [upTo_length]; simp; omega)
  have tl : t.length ≤ most := by
    have := paired_len h1
    rw [upTo_length] at this
    omega
  have ho : Over abc t := fun x hx => paired_all (R := fun _ v => v ∈ abc) (Q := fun v => v ∈ abc) (fun _ _ h => h) h1 x hx
  rw [alph_eq] at e1
  have hit : iOp rng1 [(.e (eCall f_law_draw [(.p 0), (.e (eOp2 aAdd (.p 1) (.e (eK (.int 1)))))]))] [some (.l .rw p1), dS (.int (most : Int)), dS (tS a), none] = some (DL.upTo 0 r.toNat, [some (.l .rw p2), dS (.int (most : Int)), dS (tS a), none]) := by
    generalize tS a = A at *
    simp (disch := omega) [e2]
  have hcomp : eComp (iOp rng1 [(.e (eCall f_law_draw [(.p 0), (.e (eOp2 aAdd (.p 1) (.e (eK (.int 1)))))]))]) (.v 3) [3] tTrue c_law_letters_drawn_1 [some (.l .rw p1), dS (.int (most : Int)), dS (tS a), none] = some (.list ((t.map fun c => [c]).map tS), [some (.l .rw p3), dS (.int (most : Int)), dS (tS a), none]) := by
    refine (comp_at hit rfl inVs_one h3).trans ?_
    rw [List.map_map]
    rfl
  have hj := join_tS hcomp (by rw [flat_one]; omega)
  rw [flat_one] at hj
  exact ⟨t, p3, ld_end e1 hj, ho, tl, h2.mono (by rw [upTo_length]; omega)⟩
/-- a book of the law -/
structure Bok (R : List Ru) : Prop where
  few : R.length ≤ 5
  over : ∀ r ∈ R, Over abc r.1 ∧ Over abc r.2
  len : ∀ r ∈ R, r.1.length ≤ 5 ∧ r.2.length < r.1.length
  nd : (R.map (·.1)).Nodup
theorem Bok.bk {R : List Ru} (h : Bok R) : Bk R := ⟨by have := h.few; omega, fun r hr => ⟨abc_lt (h.over r hr).1, abc_lt (h.over r hr).2⟩, fun r hr => by have := h.len r hr; omega⟩
theorem Bok.short {R : List Ru} (h : Bok R) : Short R := fun r hr => (h.len r hr).2
theorem Bok.rm {R : List Ru} (h : Bok R) {t : Tx} (ht : Over abc t) (hn : t.length ≤ 9) : Rm R t := by
  refine ⟨h.bk, fun w hw => ⟨abc_lt (hw.over (fun r hr => (h.over r hr).2) ht), by have := hw.len h.short; omega⟩, fun K hK hr => ?_⟩
  have := Lg.few (S := abc) (n := 9) hK fun w hw => ⟨(hr w hw).over (fun r hr => (h.over r hr).2) ht, by have := (hr w hw).len h.short; omega⟩
  have c : cnt abc.length 9 ≤ 100000 := by decide
  omega
abbrev Eb (p : List D) (R : List Ru) (s2 s3 s4 : Option DL.S) : DL.Env := [some (.l .rw p), pS (R.map rD), s2, s3, s4, none]
theorem bk1 {p p' : List D} {z1 z2 z3 z4 z5 : Option DL.S} (e : f_law_next [.l .rw p] = some (.none, [.l .rw p'])) : q_law_book_1 [some (.l .rw p), z1, z2, z3, z4, z5] = some (.nx, [some (.l .rw p'), z1, z2, z3, z4, z5]) := by
  simp [q_law_book_1, e]
theorem bk2 {p p' : List D} {z1 z2 z3 z4 z5 : Option DL.S} {A : D} (e : f_law_letters_drawn [.l .rw p, .d (.int 3)] = some (A, [.l .rw p', .d (.int 3)])) : q_law_book_2 [some (.l .rw p), z1, z2, z3, z4, z5] = some (.nx, [some (.l .rw p'), z1, z2, dS A, z4, z5]) := by
  simp [q_law_book_2, e]
theorem bk3 {p p1 p2 : List D} {z1 z2 z4 z5 : Option DL.S} {A B1 B2 A1 A2 : D} {r1 r2 : Int} (e1 : f_law_draw [.l .rw p, .d (.int 2)] = some (.int r1, [.l .rw p1, .d (.int 2)])) (e2 : f_law_draw [.l .rw p1, .d (.int 2)] = some (.int r2, [.l .rw p2, .d (.int 2)]))
    (i1 : aIx (.str (Str.ofString "ab")) (.int r1) = some B1) (i2 : aIx (.str (Str.ofString "ab")) (.int r2) = some B2) (d1 : aAdd A B1 = some A1) (d2 : aAdd A1 B2 = some A2) :
    q_law_book_3 [some (.l .rw p), z1, z2, dS A, z4, z5] = some (.nx, [some (.l .rw p2), z1, z2, dS A2, z4, z5]) := by
  simp [q_law_book_3, e1, e2, i1, i2, d1, d2]
theorem bk4 {p p' : List D} {z1 z2 z4 z5 : Option DL.S} {A B B' : D} {n : Int} (e : f_law_letters_drawn [.l .rw p, .d (.int 4)] = some (B, [.l .rw p', .d (.int 4)])) (ln : aLen [A] = some (.int n)) (c : aSlA none (some (n - 1)) B = some B') :
    q_law_book_4 [some (.l .rw p), z1, z2, dS A, z4, z5] = some (.nx, [some (.l .rw p'), z1, z2, dS A, dS B', z5]) := by
  simp [q_law_book_4, e, ln, c]
theorem bk5 {p : List D} {z2 : Option DL.S} {xs L : List D} {A B : D} {b : Bool} (c : eRo 1 (eComp (iPk 1) (.v 5) [5] tTrue c_law_book_1) [some (.l .rw p), pS xs, z2, dS A, dS B, none] = some (.list L, [some (.l .rw p), pS xs, z2, dS A, dS B, none])) (h : aNotIn A (.list L) = some (.bool b)) (hz : xs.length < 1000000) :
    q_law_book_5 [some (.l .rw p), pS xs, z2, dS A, dS B, none] = some (.nx, [some (.l .rw p), pS (if b = true then xs ++ [.tuple [A, B]] else xs), z2, dS A, dS B, none]) := by
  have := lt_sizeLine hz
  cases b <;> simp [q_law_book_5, c, h, this]
theorem bk_elt {A B : D} {z0 z1 z2 z3 z4 : Option DL.S} : c_law_book_1 [z0, z1, z2, z3, z4, dS (.tuple [A, B])] = some (A, [z0, z1, z2, z3, z4, dS (.tuple [A, B])]) := by
  simp [c_law_book_1]
theorem ab_ix {r : Int} (r0 : 0 ≤ r) (r1 : r < 2) : ∃ v ∈ abc, aIx (.str (Str.ofString "ab")) (.int r) = some (tS [v]) := by
  have h : (PyData.str (Str.ofString "ab") : D) = tS [97, 98] := rfl
  have ix := ix_tS (l := [97, 98]) (k := r.toNat) (by simp; omega) (by simp)
  rw [Int.toNat_of_nonneg r0] at ix
  rw [h]
  refine ⟨_, ?_, ix⟩
  have : r = 0 ∨ r = 1 := by omega
  rcases this with rfl | rfl <;> decide
theorem bk_turn {ns : List Int} {c : Nat} {p : List D} {R : List Ru} {s2 s3 s4 : Option DL.S} (hb : Bits ns) (hp : Pool ns c p) (hc : c < 2 ^ 45) (B : Bok R) (hf : R.length < 5) :
    ∃ p' R' s3' s4', l_law_book_2 (Eb p R s2 s3 s4) = some (.nx, Eb p' R' s2 s3' s4') ∧ Bok R' ∧ R'.length ≤ R.length + 1 ∧ Pool ns (c + 500) p' := by
  obtain ⟨p1, e1, hp1⟩ := next_eq hb hp (by omega)
  obtain ⟨w, p2, e2, ow, lw, hp2⟩ := letters_drawn (most := 3) hb hp1 (by omega) (by decide)
  obtain ⟨r1, p3, e3, a0, a1, hp3⟩ := draw_eq hb hp2 (by omega) (l := (2 : Int)) (by omega) (by omega)
  obtain ⟨r2, p4, e4, b0, b1, hp4⟩ := draw_eq hb hp3 (by omega) (l := (2 : Int)) (by omega) (by omega)
  obtain ⟨v1, hv1, i1⟩ := ab_ix a0 a1
  obtain ⟨v2, hv2, i2⟩ := ab_ix b0 b1
  have d1 := add_tS (a := w) (b := [v1]) (by simp; omega)
  have d2 := add_tS (a := w ++ [v1]) (b := [v2]) (by simp; omega)
  obtain ⟨u, p5, e5, ou, lu, hp5⟩ := letters_drawn (most := 4) hb hp4 (by omega) (by decide)
  have lL : (w ++ [v1] ++ [v2]).length = w.length + 2 := by simp
  have oL : Over abc (w ++ [v1] ++ [v2]) := fun x hx => by
    rcases List.mem_append.mp hx with hx | hx
    · rcases List.mem_append.mp hx with hx | hx
      · exact ow x hx
      · rw [List.mem_singleton] at hx; rw [hx]; exact hv1
    · rw [List.mem_singleton] at hx; rw [hx]; exact hv2
  have ln := len_tS (l := w ++ [v1] ++ [v2]) (by omega)
  have c4 := cut_tS (l := u) (lo := none) (hi := some ((((w ++ [v1] ++ [v2]).length : Nat) : Int) - 1)) (by omega)
  have hsub : (((w ++ [v1] ++ [v2]).length : Nat) : Int) - 1 = ((w.length + 1 : Nat) : Int) := by omega
  rw [hsub, cut_upto] at c4
  have h1 := bk1 (z1 := pS (R.map rD)) (z2 := s2) (z3 := s3) (z4 := s4) (z5 := none) e1
  have h2 := bk2 (z1 := pS (R.map rD)) (z2 := s2) (z3 := s3) (z4 := s4) (z5 := none) e2
  have h3 := bk3 (z1 := pS (R.map rD)) (z2 := s2) (z4 := s4) (z5 := none) e3 e4 i1 i2 d1 d2
  have h4 := bk4 (z1 := pS (R.map rD)) (z2 := s2) (z4 := s4) (z5 := none) e5 ln (by rw [hsub]; exact c4)
  have hc5 : eRo 1 (eComp (iPk 1) (.v 5) [5] tTrue c_law_book_1) [some (.l .rw p5), pS (R.map rD), s2, dS (tS (w ++ [v1] ++ [v2])), dS (tS (u.take (w.length + 1))), none] = some (.list ((R.map (·.1)).map tS), [some (.l .rw p5), pS (R.map rD), s2, dS (tS (w ++ [v1] ++ [v2])), dS (tS (u.take (w.length + 1))), none]) := by
    rw [List.map_map]
    exact comp_ro (l := R) (g := rD) (f := tS ∘ (·.1)) (.inl rfl) rfl (by decide) (by simp) rfl (szS (by omega)) fun r hr => bk_elt
  have h5 := bk5 hc5 (ev_notIn_tS (abc_lt oL) (fun x hx => by
    obtain ⟨r, hr, rfl⟩ := List.mem_map.mp hx
    exact abc_lt (B.over r hr).1)) (by rw [List.length_map]; omega)
  refine ⟨p5, if w ++ [v1] ++ [v2] ∈ R.map (·.1) then R else R ++ [(w ++ [v1] ++ [v2], u.take (w.length + 1))], dS (tS (w ++ [v1] ++ [v2])), dS (tS (u.take (w.length + 1))), ?_, ?_, ?_, hp5.mono (by omega)⟩
  · unfold l_law_book_2
    rw [seq_nx h1, seq_nx h2, seq_nx h3, seq_nx h4, h5]
    by_cases q : w ++ [v1] ++ [v2] ∈ R.map (·.1)
    · rw [decide_eq_true q, if_pos q]; rfl
    · rw [decide_eq_false q, if_neg q]
      show some (Out.nx, [some (DL.S.l .rw p5), pS (R.map rD ++ [rD (w ++ [v1] ++ [v2], u.take (w.length + 1))]), s2, _, _, none]) = some (Out.nx, [some (DL.S.l .rw p5), pS ((R ++ [(w ++ [v1] ++ [v2], u.take (w.length + 1))]).map rD), s2, _, _, none])
      rw [List.map_append (f := rD)]
      rfl
  · split
    · exact B
    · rename_i q
      refine ⟨by simp; omega, fun r hr => ?_, fun r hr => ?_, ?_⟩
      · rcases List.mem_append.mp hr with hr | hr
        · exact B.over r hr
        · rw [List.mem_singleton] at hr; subst hr
          exact ⟨oL, fun x hx => ou x (List.mem_of_mem_take hx)⟩
      · rcases List.mem_append.mp hr with hr | hr
        · exact B.len r hr
        · rw [List.mem_singleton] at hr; subst hr
          show (w ++ [v1] ++ [v2]).length ≤ 5 ∧ (u.take (w.length + 1)).length < (w ++ [v1] ++ [v2]).length
          rw [List.length_take]
          omega
      · rw [List.map_append, List.nodup_append]
        exact ⟨B.nd, by simp, fun a ha b hb e => by
          have hb : b = w ++ [v1] ++ [v2] := by simpa using hb
          exact q (by rw [← hb, ← e]; exact ha)⟩
  · split <;> simp
theorem bk_loop {ns : List Int} (hb : Bits ns) : ∀ (m : Nat) (lo : Int) (c : Nat) (p : List D) (R : List Ru) (s2 s3 s4 : Option DL.S), Pool ns c p → c + 500 * m < 2 ^ 45 → Bok R → R.length + m ≤ 5 →
    ∃ p' R' s2' s3' s4', forL (.v 2) l_law_book_2 (DL.upTo lo m) (Eb p R s2 s3 s4) = some (.nx, Eb p' R' s2' s3' s4') ∧ Bok R' ∧ Pool ns (c + 500 * m) p'
  | 0, lo, c, p, R, s2, s3, s4, hp, _, B, _ => ⟨p, R, s2, s3, s4, rfl, B, hp⟩
  | m + 1, lo, c, p, R, s2, s3, s4, hp, hc, B, hf => by
    obtain ⟨p1, R1, x3, x4, e1, B1, l1, hp1⟩ := bk_turn (s2 := dS (.int lo)) (s3 := s3) (s4 := s4) hb hp (by omega) B (by omega)
    obtain ⟨p', R', y2, y3, y4, e, B', hp'⟩ := bk_loop hb m (lo + 1) (c + 500) p1 R1 (dS (.int lo)) x3 x4 hp1 (by omega) B1 (by omega)
    refine ⟨p', R', y2, y3, y4, ?_, B', hp'.mono (by omega)⟩
    have b1 : bindPat (.v 2) (.int lo) (Eb p R s2 s3 s4) = some (Eb p R (dS (.int lo)) s3 s4) := rfl
    show forL (.v 2) l_law_book_2 (.int lo :: DL.upTo (lo + 1) m) _ = _
    rw [ev_forL, b1, Option.bind_some, e1]
    exact e
theorem bk_end {p p1 p2 : List D} {r : Int} {xs : List D} {y2 y3 y4 y5 : Option DL.S} (e1 : f_law_draw [.l .rw p, .d (.int 5)] = some (.int r, [.l .rw p1, .d (.int 5)])) (hr : 0 ≤ r ∧ r < 100)
    (e2 : forL (.v 2) l_law_book_2 (DL.upTo 0 (1 + r).toNat) [some (.l .rw p1), pS [], none, none, none, none] = some (.nx, [some (.l .rw p2), pS xs, y2, y3, y4, y5])) : f_law_book [.l .rw p] = some (.list xs, [.l .rw p2]) := by
  simp (disch := omega) [f_law_book, m_law_book, q_law_book_6, q_law_book_7, q_law_book_8, e1, e2]
theorem book_drawn {ns : List Int} {c : Nat} {p : List D} (hb : Bits ns) (hp : Pool ns c p) (hc : c < 2 ^ 40) : ∃ R p', f_law_book [.l .rw p] = some (RD R, [.l .rw p']) ∧ Bok R ∧ Pool ns (c + 5000) p' := by
  obtain ⟨r, p1, e1, r0, r1, hp1⟩ := draw_eq hb hp (by omega) (l := (5 : Int)) (by omega) (by omega)
  obtain ⟨p2, R, y2, y3, y4, e2, B, hp2⟩ := bk_loop hb (1 + r).toNat 0 (c + 1) p1 [] none none none hp1 (by omega) ⟨by simp, (fun _ h => by cases h), (fun _ h => by cases h), by simp⟩ (by simp; omega)
  exact ⟨R, p2, bk_end e1 (by omega) e2, B, hp2.mono (by omega)⟩
end G
/-! k82: is_book, copies, bent rows. -/
namespace G
open PySem L2 DL Lg
theorem copied_self : ∀ (n : Nat) (d : D), Pl n d → f_law_copied (n + 1) [.d d] = some (d, [.d d]) := by
  intro n
  induction n with
  | zero =>
    intro d h
    show fnD 4 (m_law_copied (f_law_copied 0)) _ = _
    generalize f_law_copied 0 = F at *
    cases d with
    | list _ => exact h.elim
    | tuple _ => exact h.elim
    | dict _ => exact h.elim
    | _ => simp [m_law_copied, aIsi, isiD, tyNm, isiTys, scrD]
  | succ n ih =>
    intro d h
    have hc : ∀ (xs : List D), xs.length ≤ 1000000 → (∀ x ∈ xs, Pl n x) → ∀ (x0 : D), (x0 = .list xs ∨ x0 = .tuple xs) → ∀ c, (c = c_law_copied_2 (f_law_copied (n + 1)) ∨ c = c_law_copied_3 (f_law_copied (n + 1))) →
        eComp (iSeq (eV 0)) (.v 3) [3] tTrue c [some (.d x0), none, none, none] = some (.list xs, [some (.d x0), none, none, none]) := by
      intro xs hl hx x0 h0 c hcc
      have := comp_map (it := iSeq (eV 0)) (i := 3) (m := c) (env := [some (.d x0), none, none, none]) (l := xs) (g := id) (f := id) (by rcases h0 with rfl | rfl <;> simp) (by simp) rfl (Nat.le_trans hl sizeLine_big) (fun x hxx => by
        have e := ih x (hx x hxx)
        generalize f_law_copied (n + 1) = F at *
        rcases hcc with rfl | rfl
        · simp [c_law_copied_2, e]
        · simp [c_law_copied_3, e])
      rw [List.map_id] at this
      exact this
    show fnD 4 (m_law_copied (f_law_copied (n + 1))) _ = _
    cases d with
    | list xs =>
      have q := hc xs h.1 h.2 _ (.inl rfl) _ (.inl rfl)
      generalize f_law_copied (n + 1) = F at *
      simp [m_law_copied, aIsi, isiD, tyNm, isiTys, scrD, q]
    | tuple xs =>
      have q := hc xs h.1 h.2 _ (.inr rfl) _ (.inr rfl)
      generalize f_law_copied (n + 1) = F at *
      simp [m_law_copied, aIsi, isiD, tyNm, isiTys, scrD, q]
    | dict _ => exact h.elim
    | _ =>
      generalize f_law_copied (n + 1) = F at *
      simp [m_law_copied, aIsi, isiD, tyNm, isiTys, scrD]
theorem pl_rD (n : Nat) {r : Ru} (h1 : Lt r.1) (h2 : Lt r.2) : Pl (n + 1) (rD r) := ⟨by simp, fun x hx => by
  rcases List.mem_cons.mp hx with rfl | hx
  · exact pl_tS n h1
  · rw [List.mem_singleton] at hx; subst hx; exact pl_tS n h2⟩
theorem pl_RD (n : Nat) {R : List Ru} (B : Bk R) : Pl (n + 2) (RD R) := ⟨by rw [List.length_map]; have := B.few; omega, fun x hx => by
  obtain ⟨r, hr, rfl⟩ := List.mem_map.mp hx
  exact pl_rD n (B.lt r hr).1 (B.lt r hr).2⟩
/-! is_book -/
def LET : Str := Str.ofString "abcdefghijklmnopqrstuvwxyz"
theorem tx_elt {A x : D} {b : Bool} (h : aIn x (.str LET) = some (.bool b)) : c_is_text_1 [dS A, dS x] = some (.bool b, [dS A, dS x]) := by
  have h' : aIn x (.str (Str.ofString "abcdefghijklmnopqrstuvwxyz")) = some (.bool b) := h
  simp [c_is_text_1, h']
theorem chars_tS (w : Tx) : charsD ⟨w.toArray⟩ = w.map fun c => tS [c] := by
  unfold charsD
  show w.toArray.toList.map _ = _
  rfl
theorem text_core {A : D} {L : List D} {b : Bool} (h : aIsi "str" A = some (.bool true)) (c : eComp (iSeq (eV 0)) (.v 1) [1] tTrue c_is_text_1 [dS A, none] = some (.list L, [dS A, none])) (a : aAll [.list L] = some (.bool b)) : f_is_text [.d A] = some (.bool b, [.d A]) := by
  simp [f_is_text, m_is_text, h, c, a]
theorem is_text {w : Tx} (h : Over abc w) (hn : w.length ≤ 1000) : f_is_text [.d (tS w)] = some (.bool true, [.d (tS w)]) := by
  have c : eComp (iSeq (eV 0)) (.v 1) [1] tTrue c_is_text_1 [dS (tS w), none] = some (.list ((w.map fun _ => true).map .bool), [dS (tS w), none]) := by
    rw [List.map_map]
    refine comp_map (l := w) (g := fun c => tS [c]) (f := _) ?_ (by simp) rfl (szS (by omega)) fun x hx => ?_
    · rw [← chars_tS]
      simp [tS, seqD]
    · refine tx_elt (x := tS [x]) ?_
      show (inD (tS [x]) (.str LET)).map PyData.bool = _
      have : inD (tS [x]) (.str LET) = some (decide (x ∈ LET.cps.toList)) := rfl
      rw [this]
      have : ∀ c ∈ abc, c ∈ LET.cps.toList := by decide +kernel
      rw [decide_eq_true (this x (h x hx))]
      rfl
  refine text_core rfl c ((ev_all _).trans ?_)
  congr 2
  simp
theorem rule_core {A B : D} {a b : Int} (h1 : f_is_text [.d A] = some (.bool true, [.d A])) (h2 : f_is_text [.d B] = some (.bool true, [.d B])) (l1 : aLen [A] = some (.int a)) (l2 : aLen [B] = some (.int b)) (z1 : b < a) (z2 : a ≤ 5) : f_is_rule [.d (.tuple [A, B])] = some (.bool true, [.d (.tuple [A, B])]) := by
  simp [f_is_rule, m_is_rule, q_is_rule_1, q_is_rule_2, aIsi, isiD, tyNm, isiTys, scrD, h1, h2, l1, l2, z1, z2]
theorem is_rule {R : List Ru} (B : Bok R) {r : Ru} (hr : r ∈ R) : f_is_rule [.d (rD r)] = some (.bool true, [.d (rD r)]) := by
  have o := B.over r hr
  have l := B.len r hr
  exact rule_core (is_text o.1 (by omega)) (is_text o.2 (by omega)) (len_tS (by omega)) (len_tS (by omega)) (by omega) (by omega)
theorem setLen_nodup {ys : List Str} (h : ys.Nodup) : setLen ys = ys.length := by
  have key : ∀ i, i ≤ ys.length → metT (fun i => ys.getD i Str.empty) i = ys.take i := by
    intro i
    induction i with
    | zero => intro _; rfl
    | succ i ih =>
      intro hi
      rw [metT_succ, ih (by omega)]
      have hi' : i < ys.length := by omega
      have hg : ys.getD i Str.empty = ys[i] := by rw [List.getD_eq_getElem?_getD, List.getElem?_eq_getElem hi']; rfl
      rw [hg, List.take_succ_eq_append_getElem hi']
      unfold addT
      rw [if_neg]
      intro hc
      obtain ⟨x, hx, e⟩ := List.any_eq_true.mp hc
      have e : x = ys[i] := by simpa using e
      subst e
      obtain ⟨j, hj, ej⟩ := List.getElem_of_mem hx
      rw [List.length_take] at hj
      rw [List.getElem_take] at ej
      have := (List.nodup_iff_pairwise_ne.mp h)
      exact (List.pairwise_iff_getElem.mp this j i (by omega) hi' (by omega)) ej
  unfold setLen
  rw [key _ (Nat.le_refl _), List.take_length]
theorem isb_elt {A x : D} {z2 z3 : Option DL.S} {b : Bool} (h : f_is_rule [.d x] = some (.bool b, [.d x])) : c_is_book_1 [dS A, dS x, z2, z3] = some (.bool b, [dS A, dS x, z2, z3]) := by
  simp [c_is_book_1, h]
theorem isb_elt2 {A x y : D} {z1 : Option DL.S} : c_is_book_2 [dS A, z1, dS x, dS y] = some (x, [dS A, z1, dS x, dS y]) := by
  simp [c_is_book_2]
theorem book_core {xs L : List D} {n : Int} (hl : xs.length ≤ 12) (c1 : eComp (iSeq (eV 0)) (.v 1) [1] tTrue c_is_book_1 [dS (.list xs), none, none, none] = some (.list L, [dS (.list xs), none, none, none])) (a : aAll [.list L] = some (.bool true))
    (c2 : eLenSet (eComp (iSeq (eV 0)) (.t [(.v 2), (.v 3)]) [2, 3] tTrue c_is_book_2) [dS (.list xs), none, none, none] = some (.int n, [dS (.list xs), none, none, none])) (hn : n = xs.length) : f_is_book [.d (.list xs)] = some (.bool true, [.d (.list xs)]) := by
  have h2 : ¬ 12 < (xs.length : Int) := by omega
  subst hn
  simp [f_is_book, m_is_book, q_is_book_1, q_is_book_2, aIsi, isiD, tyNm, isiTys, scrD, c1, a, c2, h2]
theorem is_book {R : List Ru} (B : Bok R) : f_is_book [.d (RD R)] = some (.bool true, [.d (RD R)]) := by
  have hf := B.few
  have c1 : eComp (iSeq (eV 0)) (.v 1) [1] tTrue c_is_book_1 [dS (RD R), none, none, none] = some (.list ((R.map fun _ => true).map .bool), [dS (RD R), none, none, none]) := by
    rw [List.map_map]
    refine comp_map (l := R) (g := rD) (f := _) ?_ (by simp) rfl (szS (by omega)) fun x hx => isb_elt (is_rule B hx)
    show iSeq (eV 0) [dS (.list (R.map rD)), none, none, none] = some (R.map rD, [dS (.list (R.map rD)), none, none, none])
    generalize R.map rD = Y
    simp
  have c2 : eComp (iSeq (eV 0)) (.t [(.v 2), (.v 3)]) [2, 3] tTrue c_is_book_2 [dS (RD R), none, none, none] = some (.list ((R.map (·.1)).map tS), [dS (RD R), none, none, none]) := by
    rw [List.map_map]
    refine comp_two (l := R) (g1 := fun r => tS r.1) (g2 := fun r => tS r.2) (f := _) ?_ (by decide) (by simp) (by simp) rfl (szS (by omega)) fun x hx => isb_elt2
    show iSeq (eV 0) [dS (.list (R.map rD)), none, none, none] = some (R.map rD, [dS (.list (R.map rD)), none, none, none])
    generalize R.map rD = Y
    simp
  have nd : ((R.map (·.1)).map fun w : Tx => (⟨w.toArray⟩ : Str)).Nodup := by
    rw [List.nodup_iff_pairwise_ne, List.pairwise_map]
    refine (List.nodup_iff_pairwise_ne.mp B.nd).imp fun h e => h ?_
    have := congrArg Str.cps e
    simpa using this
  have c3 : eLenSet (eComp (iSeq (eV 0)) (.t [(.v 2), (.v 3)]) [2, 3] tTrue c_is_book_2) [dS (RD R), none, none, none] = some (.int ((R.length : Nat) : Int), [dS (RD R), none, none, none]) := by
    unfold eLenSet
    rw [c2, Option.bind_some]
    show ((strsD ((R.map (·.1)).map tS)).bind fun ys => _) = _
    rw [strsD_tS, Option.bind_some, if_pos (by simp; omega), setLen_nodup nd]
    simp
  exact book_core (by rw [List.length_map]; omega) c1 ((ev_all _).trans (by congr 2; simp)) c3 (by rw [List.length_map])
theorem wrong_eq : ∃ L : List D, f_law_wrong [] = some (.list L, []) ∧ L.length ≤ 100 ∧ ∀ w ∈ L, f_is_book [.d w] = some (.bool false, [.d w]) := by
  refine ⟨[.none, .dict [], .tuple [.tuple [tS [97, 98], tS [99]]], .list [.tuple [tS [97], tS [98]]], .list [.tuple [tS [97, 98], tS [99, 100]]], .list [.tuple [tS [65], tS []]], .list [.list [tS [97, 98], tS [99]]], .list [.tuple [tS [97, 98]]], .list [.tuple [tS [97, 98], tS [99], tS [100]]],
    .list [.tuple [tS [97, 98, 99, 100, 101, 102], tS [97]]], .list [.tuple [tS [97, 98], tS [99]], .tuple [tS [97, 98], tS [100]]], .list [.tuple [tS [97, 98], .int 7]], .list [.tuple [.int 7, tS [97]]], .list ([97, 98, 99, 100, 101, 102, 103, 104, 105, 106, 107, 108, 109].map fun c => .tuple [tS [97, c], tS [97]]), .list [tS [97, 98]]], ?_, ?_, ?_⟩
  · kernel_rfl
  · simp
  · intro w hw
    simp only [List.mem_cons, List.not_mem_nil, or_false] at hw
    rcases hw with rfl | rfl | rfl | rfl | rfl | rfl | rfl | rfl | rfl | rfl | rfl | rfl | rfl | rfl | rfl <;> kernel_rfl
theorem book_nil : f_is_book [.d (.list [])] = some (.bool true, [.d (.list [])]) := by kernel_rfl
end G
/-! k82: rows bent. -/
namespace G
open PySem L2 DL Lg
section
variable {p p1 p2 p3 p4 : List D} {L a b : List D} {w r1 r2 : Int} {A x : D}
theorem bn1 (e1 : f_law_draw [.l .rw p, .d (.int 5)] = some (.int w, [.l .rw p1, .d (.int 5)])) (h : aEq (.list L) (.list []) = some (.bool true)) (e2 : f_law_draw [.l .rw p1, .d (.int 4)] = some (.int r1, [.l .rw p2, .d (.int 4)])) (e3 : f_law_draw [.l .rw p2, .d (.int 3)] = some (.int r2, [.l .rw p3, .d (.int 3)])) (hz : L.length ≤ 10000) :
    f_law_bent [.l .rw p, .d (.list L)] = some (.list (L ++ [.tuple [.int r1, .int r2]]), [.l .rw p3, .d (.list L)]) := by
  have : L.length + 1 ≤ 1000000 := by omega
  simp [f_law_bent, m_law_bent, q_law_bent_1, q_law_bent_2, q_law_bent_3, e1, h, e2, e3, this]
theorem bn2 (e1 : f_law_draw [.l .rw p, .d (.int 5)] = some (.int w, [.l .rw p1, .d (.int 5)])) (h : aEq (.list L) (.list []) = some (.bool false)) (hw : w = 0) (e2 : f_law_draw [.l .rw p1, .d (.int 4)] = some (.int r1, [.l .rw p2, .d (.int 4)])) (e3 : f_law_draw [.l .rw p2, .d (.int 3)] = some (.int r2, [.l .rw p3, .d (.int 3)])) (hz : L.length ≤ 10000) :
    f_law_bent [.l .rw p, .d (.list L)] = some (.list (L ++ [.tuple [.int r1, .int r2]]), [.l .rw p3, .d (.list L)]) := by
  have : L.length + 1 ≤ 1000000 := by omega
  subst hw
  simp [f_law_bent, m_law_bent, q_law_bent_1, q_law_bent_2, q_law_bent_3, e1, h, e2, e3, this]
theorem bn3 (e1 : f_law_draw [.l .rw p, .d (.int 5)] = some (.int w, [.l .rw p1, .d (.int 5)])) (h : aEq (.list L) (.list []) = some (.bool false)) (hw : w = 1) {n : Int} (hn : (L.length : Int) = n) (e2 : f_law_draw [.l .rw p1, .d (.int n)] = some (.int r1, [.l .rw p2, .d (.int n)])) (c1 : cutD L none (some r1) = a) (c2 : cutD L (some (r1 + 1)) none = b) (hz : a.length + b.length ≤ 1000000) :
    f_law_bent [.l .rw p, .d (.list L)] = some (.list (a ++ b), [.l .rw p2, .d (.list L)]) := by
  subst hw
  simp [f_law_bent, m_law_bent, q_law_bent_1, q_law_bent_2, q_law_bent_3, q_law_bent_4, q_law_bent_5, e1, h, hn, e2, c1, c2, hz]
theorem bn4 (e1 : f_law_draw [.l .rw p, .d (.int 5)] = some (.int w, [.l .rw p1, .d (.int 5)])) (h : aEq (.list L) (.list []) = some (.bool false)) (hw : w = 2) {n : Int} (hn : (L.length : Int) = n) (e2 : f_law_draw [.l .rw p1, .d (.int n)] = some (.int r1, [.l .rw p2, .d (.int n)])) :
    f_law_bent [.l .rw p, .d (.list L)] = some (.list L.reverse, [.l .rw p2, .d (.list L)]) := by
  subst hw
  simp [f_law_bent, m_law_bent, q_law_bent_1, q_law_bent_2, q_law_bent_3, q_law_bent_4, q_law_bent_5, q_law_bent_6, e1, h, hn, e2]
theorem bn5 (e1 : f_law_draw [.l .rw p, .d (.int 5)] = some (.int w, [.l .rw p1, .d (.int 5)])) (h : aEq (.list L) (.list []) = some (.bool false)) (h0 : ¬ w = 0) (h1 : ¬ w = 1) (h2 : ¬ w = 2) {n s t : Int} {y : D} (hn : (L.length : Int) = n) (e2 : f_law_draw [.l .rw p1, .d (.int n)] = some (.int r1, [.l .rw p2, .d (.int n)])) (c1 : cutD L none (some r1) = a) (c2 : cutD L (some (r1 + 1)) none = b)
    (ix : atI L r1 = some (.tuple [.int s, y])) (e3 : f_law_pick [.l .rw p2, .d (.list [.int 1, .int (-1), .int 0])] = some (.int t, [.l .rw p3, .d (.list [.int 1, .int (-1), .int 0])])) (e4 : f_law_draw [.l .rw p3, .d (.int 5)] = some (.int r2, [.l .rw p4, .d (.int 5)])) (hz : a.length + 1 + b.length ≤ 1000000) :
    f_law_bent [.l .rw p, .d (.list L)] = some (.list (a ++ [.tuple [.int (s + t), .int r2]] ++ b), [.l .rw p4, .d (.list L)]) := by
  have hz1 : a.length + 1 ≤ 1000000 := by omega
  simp (disch := first | omega | (simp; omega)) [f_law_bent, m_law_bent, q_law_bent_1, q_law_bent_2, q_law_bent_3, q_law_bent_4, q_law_bent_5, q_law_bent_6, q_law_bent_7, e1, h, h0, h1, h2, hn, e2, c1, c2, ix, e3, e4, hz1]
end
theorem cut_from' {α : Type} {xs : List α} {k : Nat} : cutD xs (some (k : Int)) none = xs.drop k := by
  by_cases h : k ≤ xs.length
  · exact cut_from h
  · rw [cut_over (by omega), List.drop_of_length_le (by omega)]
theorem bent_eq {ns : List Int} {c : Nat} {p : List D} {row : List (Nat × Nat)} (hb : Bits ns) (hp : Pool ns c p) (hc : c < 2 ^ 50) (hr : row.length ≤ 1000) :
    ∃ (row' : List (Int × Int)) (p' : List D), f_law_bent [.l .rw p, .d (.list (row.map sD))] = some (.list (row'.map sI), [.l .rw p', .d (.list (row.map sD))]) ∧ Pool ns (c + 10) p' := by
  obtain ⟨w, p1, e1, w0, w1, hp1⟩ := draw_eq hb hp (by omega) (l := (5 : Int)) (by omega) (by omega)
  have h := eq_nil_sD row
  have hl : (row.map sD).length ≤ 10000 := by rw [List.length_map]; omega
  by_cases h0 : row = []
  · rw [decide_eq_true h0] at h
    obtain ⟨r1, p2, e2, _, _, hp2⟩ := draw_eq hb hp1 (by omega) (l := (4 : Int)) (by omega) (by omega)
    obtain ⟨r2, p3, e3, _, _, hp3⟩ := draw_eq hb hp2 (by omega) (l := (3 : Int)) (by omega) (by omega)
    refine ⟨row.map zI ++ [(r1, r2)], p3, ?_, hp3.mono (by omega)⟩
    rw [List.map_append, ← sD_zI]
    exact bn1 e1 h e2 e3 hl
  · rw [decide_eq_false h0] at h
    by_cases q0 : w = 0
    · obtain ⟨r1, p2, e2, _, _, hp2⟩ := draw_eq hb hp1 (by omega) (l := (4 : Int)) (by omega) (by omega)
      obtain ⟨r2, p3, e3, _, _, hp3⟩ := draw_eq hb hp2 (by omega) (l := (3 : Int)) (by omega) (by omega)
      refine ⟨row.map zI ++ [(r1, r2)], p3, ?_, hp3.mono (by omega)⟩
      rw [List.map_append, ← sD_zI]
      exact bn2 e1 h q0 e2 e3 hl
    · have hpos : 0 < row.length := List.length_pos_iff.mpr h0
      obtain ⟨r1, p2, e2, b0, b1, hp2⟩ := draw_eq hb hp1 (by omega) (l := (row.length : Int)) (by omega) (by omega)
      obtain ⟨r, rfl⟩ := Int.eq_ofNat_of_zero_le b0
      have hn : ((row.map sD).length : Int) = (row.length : Int) := by rw [List.length_map]
      have c1 : cutD (row.map sD) none (some (r : Int)) = (row.take r).map sD := by rw [cut_upto, List.map_take]
      have c2 : cutD (row.map sD) (some ((r : Int) + 1)) none = (row.drop (r + 1)).map sD := by
        have := cut_from' (xs := row.map sD) (k := r + 1)
        rw [List.map_drop]
        exact this
      have l1 : ((row.take r).map sD).length ≤ 1000 := by rw [List.length_map, List.length_take]; omega
      have l2 : ((row.drop (r + 1)).map sD).length ≤ 1000 := by rw [List.length_map, List.length_drop]; omega
      by_cases q1 : w = 1
      · refine ⟨(row.take r ++ row.drop (r + 1)).map zI, p2, ?_, hp2.mono (by omega)⟩
        rw [← sD_zI, List.map_append]
        exact bn3 e1 h q1 hn e2 c1 c2 (by omega)
      · by_cases q2 : w = 2
        · refine ⟨row.reverse.map zI, p2, ?_, hp2.mono (by omega)⟩
          rw [← sD_zI, List.map_reverse]
          exact bn4 e1 h q2 hn e2
        · obtain ⟨t, p3, e3, ht, hp3⟩ := pick_eq hb hp2 (by omega) (opts := [.int 1, .int (-1), .int 0]) (by decide) (by decide)
          have : ∃ t' : Int, t = .int t' := by
            simp only [List.mem_cons, List.not_mem_nil, or_false] at ht
            rcases ht with rfl | rfl | rfl <;> exact ⟨_, rfl⟩
          obtain ⟨t, rfl⟩ := this
          obtain ⟨r2, p4, e4, _, _, hp4⟩ := draw_eq hb hp3 (by omega) (l := (5 : Int)) (by omega) (by omega)
          have hr1 : r < row.length := by omega
          have ix : atI (row.map sD) (r : Int) = some (.tuple [.int ((row[r].1 : Nat) : Int), nI row[r].2]) := atI_nat (by rw [List.getElem?_map, List.getElem?_eq_getElem hr1]; rfl)
          refine ⟨(row.take r).map zI ++ [((row[r].1 : Int) + t, r2)] ++ (row.drop (r + 1)).map zI, p4, ?_, hp4.mono (by omega)⟩
          rw [List.map_append, List.map_append, ← sD_zI, ← sD_zI]
          exact bn5 e1 h q0 q1 q2 hn e2 c1 c2 ix e3 e4 (by omega)
end G
/-! k82: the law, statement by statement. -/
namespace G
open PySem L2 DL Lg
abbrev E20 (z0 z1 z2 z3 z4 z5 z6 z7 z8 z9 z10 z11 z12 z13 z14 z15 z16 z17 z18 z19 : Option DL.S) : DL.Env := [z0, z1, z2, z3, z4, z5, z6, z7, z8, z9, z10, z11, z12, z13, z14, z15, z16, z17, z18, z19]
/-- data or nothing -/
def Dt (z : Option DL.S) : Prop := z = none ∨ ∃ x, z = dS x
theorem Dt.no : Dt none := .inl rfl
theorem Dt.of (x : D) : Dt (dS x) := .inr ⟨x, rfl⟩
section
variable {z0 z1 z2 z3 z4 z5 z6 z7 z8 z9 z10 z11 z12 z13 z14 z15 z16 z17 z18 z19 : Option DL.S} {X A B C W Rw Eo O : D} {p p' p1 p2 : List D} {L M ss : List D} {b : Bool}
theorem v8 (e : f_law_next [.l .rw p] = some (.none, [.l .rw p'])) : q_law_8 (E20 z0 (pS p) z2 z3 z4 z5 z6 z7 z8 z9 z10 z11 z12 z13 z14 z15 z16 z17 z18 z19) = some (.nx, E20 z0 (pS p') z2 z3 z4 z5 z6 z7 z8 z9 z10 z11 z12 z13 z14 z15 z16 z17 z18 z19) := by
  simp [q_law_8, e]
theorem v9 (e : f_law_letters_drawn [.l .rw p, .d (.int 9)] = some (A, [.l .rw p', .d (.int 9)])) : q_law_9 (E20 z0 (pS p) z2 z3 z4 z5 z6 z7 z8 z9 z10 z11 z12 z13 z14 z15 z16 z17 z18 z19) = some (.nx, E20 z0 (pS p') z2 z3 (dS A) z5 z6 z7 z8 z9 z10 z11 z12 z13 z14 z15 z16 z17 z18 z19) := by
  simp [q_law_9, e]
theorem v10 : q_law_10 (E20 z0 z1 (dS (.list L)) z3 z4 z5 z6 z7 z8 z9 z10 z11 z12 z13 z14 z15 z16 z17 z18 z19) = some (.nx, E20 z0 z1 (dS (.list L)) z3 z4 (dS (.list L)) z6 z7 z8 z9 z10 z11 z12 z13 z14 z15 z16 z17 z18 z19) := by
  simp [q_law_10]
theorem v11 (e : f_law_steps [.d X, .d A] = some (B, [.d X, .d A])) : q_law_11 (E20 z0 z1 (dS X) z3 (dS A) z5 z6 z7 z8 z9 z10 z11 z12 z13 z14 z15 z16 z17 z18 z19) = some (.nx, E20 z0 z1 (dS X) z3 (dS A) z5 (dS B) z7 z8 z9 z10 z11 z12 z13 z14 z15 z16 z17 z18 z19) := by
  simp [q_law_11, e]
theorem v12 (e : f_ends [.d X, .d A] = some (B, [.d X, .d A])) : q_law_12 (E20 z0 z1 z2 z3 (dS A) (dS X) z6 z7 z8 z9 z10 z11 z12 z13 z14 z15 z16 z17 z18 z19) = some (.nx, E20 z0 z1 z2 z3 (dS A) (dS X) z6 (dS B) z8 z9 z10 z11 z12 z13 z14 z15 z16 z17 z18 z19) := by
  simp [q_law_12, e]
theorem v13 (e1 : f_steps [.d X, .d A] = some (B, [.d X, .d A])) (e2 : f_law_ends [.d X, .d A] = some (C, [.d X, .d A])) (e3 : f_law_same 4 [.d (.list [B, C]), .d (.list [B, C])] = some (.bool true, [.d (.list [B, C]), .d (.list [B, C])])) (e4 : aNe X X = some (.bool false)) :
    q_law_13 (E20 z0 z1 (dS X) z3 (dS A) (dS X) (dS B) (dS C) z8 z9 z10 z11 z12 z13 z14 z15 z16 z17 z18 z19) = some (.nx, E20 z0 z1 (dS X) z3 (dS A) (dS X) (dS B) (dS C) z8 z9 z10 z11 z12 z13 z14 z15 z16 z17 z18 z19) := by
  simp [q_law_13, e1, e2, e3, e4]
theorem v14a (e1 : f_stepped [.d X, .d A, .d B] = some (W, [.d X, .d A, .d B])) (e2 : f_law_stepped [.d X, .d A, .d B] = some (W, [.d X, .d A, .d B])) (e : aEq W W = some (.bool true)) :
    c_law_1 (E20 z0 z1 (dS X) z3 (dS A) z5 z6 z7 z8 z9 z10 (dS B) z12 z13 z14 z15 z16 z17 z18 z19) = some (.bool true, E20 z0 z1 (dS X) z3 (dS A) z5 z6 z7 z8 z9 z10 (dS B) z12 z13 z14 z15 z16 z17 z18 z19) := by
  simp [c_law_1, e1, e2, e]
theorem v14 (c : eComp (iSeq (eV 6)) (.v 11) [11] tTrue c_law_1 (E20 z0 z1 z2 z3 z4 z5 z6 z7 z8 z9 z10 z11 z12 z13 z14 z15 z16 z17 z18 z19) = some (.list L, E20 z0 z1 z2 z3 z4 z5 z6 z7 z8 z9 z10 z11 z12 z13 z14 z15 z16 z17 z18 z19)) (a : aAll [.list L] = some (.bool true)) :
    q_law_14 (E20 z0 z1 z2 z3 z4 z5 z6 z7 z8 z9 z10 z11 z12 z13 z14 z15 z16 z17 z18 z19) = some (.nx, E20 z0 z1 z2 z3 z4 z5 z6 z7 z8 z9 z10 z11 z12 z13 z14 z15 z16 z17 z18 z19) := by
  simp [q_law_14, c, a]
theorem v15a {n m : Int} (l1 : aLen [W] = some (.int n)) (l2 : aLen [A] = some (.int m)) (h : ¬ m < n) : c_law_2 (E20 z0 z1 z2 z3 (dS A) z5 z6 z7 (dS W) z9 z10 z11 z12 z13 z14 z15 z16 z17 z18 z19) = some (.bool false, E20 z0 z1 z2 z3 (dS A) z5 z6 z7 (dS W) z9 z10 z11 z12 z13 z14 z15 z16 z17 z18 z19) := by
  simp [c_law_2, l1, l2, h]
theorem v15 (c : eComp (iSeq (eV 7)) (.v 8) [8] tTrue c_law_2 (E20 z0 z1 z2 z3 z4 z5 z6 z7 z8 z9 z10 z11 z12 z13 z14 z15 z16 z17 z18 z19) = some (.list L, E20 z0 z1 z2 z3 z4 z5 z6 z7 z8 z9 z10 z11 z12 z13 z14 z15 z16 z17 z18 z19)) (a : aAny [.list L] = some (.bool false)) :
    q_law_15 (E20 z0 z1 z2 z3 z4 z5 z6 z7 z8 z9 z10 z11 z12 z13 z14 z15 z16 z17 z18 z19) = some (.nx, E20 z0 z1 z2 z3 z4 z5 z6 z7 z8 z9 z10 z11 z12 z13 z14 z15 z16 z17 z18 z19) := by
  simp [q_law_15, c, a]
theorem v16 (e : f_set_text [.d X, .d A] = some (.tuple [Eo, Rw], [.d X, .d A])) : q_law_16 (E20 z0 z1 z2 z3 (dS A) (dS X) z6 z7 z8 z9 z10 z11 z12 z13 z14 z15 z16 z17 z18 z19) = some (.nx, E20 z0 z1 z2 z3 (dS A) (dS X) z6 z7 (dS Eo) (dS Rw) z10 z11 z12 z13 z14 z15 z16 z17 z18 z19) := by
  simp [q_law_16, e]
theorem v17 : q_law_17 (E20 z0 z1 z2 z3 (dS A) z5 z6 z7 z8 z9 z10 z11 z12 z13 z14 z15 z16 z17 z18 z19) = some (.nx, E20 z0 z1 z2 z3 (dS A) z5 z6 z7 z8 z9 (dS A) z11 z12 z13 z14 z15 z16 z17 z18 z19) := by
  simp [q_law_17]
theorem v1a {Xs : List D} {L0 L1 : D} {pl k m : Int} (a1 : atI Xs k = some (.tuple [L0, L1])) (ln : aLen [L0] = some (.int m)) : c_law_3 (E20 z0 z1 (dS (.list Xs)) z3 z4 z5 z6 z7 z8 z9 z10 z11 z12 z13 z14 z15 z16 z17 (dS (.int pl)) (dS (.int k))) = some (.tuple [.int pl, .int (-m), .int k], E20 z0 z1 (dS (.list Xs)) z3 z4 z5 z6 z7 z8 z9 z10 z11 z12 z13 z14 z15 z16 z17 (dS (.int pl)) (dS (.int k))) := by
  simp [c_law_3, a1, ln]
theorem v1 (c : eComp (iSeq (eCall f_law_steps [(.p 2), (.p 10)])) (.t [(.v 18), (.v 19)]) [18, 19] tTrue c_law_3 (E20 z0 z1 z2 z3 z4 z5 z6 z7 z8 z9 z10 z11 z12 z13 z14 z15 z16 z17 z18 z19) = some (.list L, E20 z0 z1 z2 z3 z4 z5 z6 z7 z8 z9 z10 z11 z12 z13 z14 z15 z16 z17 z18 z19)) (m : aMin [.list L] = some B) :
    q_law_1 (E20 z0 z1 z2 z3 z4 z5 z6 z7 z8 z9 z10 z11 z12 z13 z14 z15 z16 z17 z18 z19) = some (.nx, E20 z0 z1 z2 z3 z4 z5 z6 z7 z8 z9 z10 z11 (dS B) z13 z14 z15 z16 z17 z18 z19) := by
  simp [q_law_1, c, m]
theorem v2x {a b c s : D} (hs : s = .tuple [a, c]) (h : aNe s s = some (.bool false)) : q_law_2 (E20 z0 z1 z2 z3 z4 z5 z6 z7 z8 z9 z10 (dS s) (dS (.tuple [a, b, c])) z13 z14 z15 z16 z17 z18 z19) = some (.nx, E20 z0 z1 z2 z3 z4 z5 z6 z7 z8 z9 z10 (dS s) (dS (.tuple [a, b, c])) z13 z14 z15 z16 z17 z18 z19) := by
  subst hs
  simp [q_law_2, h]
theorem v3 {s : D} (e : f_law_stepped [.d X, .d A, .d s] = some (B, [.d X, .d A, .d s])) : q_law_3 (E20 z0 z1 (dS X) z3 z4 z5 z6 z7 z8 z9 (dS A) (dS s) z12 z13 z14 z15 z16 z17 z18 z19) = some (.nx, E20 z0 z1 (dS X) z3 z4 z5 z6 z7 z8 z9 (dS B) (dS s) z12 z13 z14 z15 z16 z17 z18 z19) := by
  simp [q_law_3, e]
theorem v19 (h1 : aNe Eo Eo = some (.bool false)) (e : f_law_steps [.d X, .d Eo] = some (.list [], [.d X, .d Eo])) (h2 : aNe (.list []) (.list []) = some (.bool false)) (h3 : aNotIn Eo B = some (.bool false)) :
    q_law_19 (E20 z0 z1 (dS X) z3 z4 z5 z6 (dS B) (dS Eo) z9 (dS Eo) z11 z12 z13 z14 z15 z16 z17 z18 z19) = some (.nx, E20 z0 z1 (dS X) z3 z4 z5 z6 (dS B) (dS Eo) z9 (dS Eo) z11 z12 z13 z14 z15 z16 z17 z18 z19) := by
  simp [q_law_19, h1, e, h2, h3]
theorem v4a : q_law_4 (E20 z0 z1 z2 z3 z4 z5 z6 z7 z8 (dS Rw) z10 z11 z12 (dS (.int 0)) z14 z15 z16 z17 z18 z19) = some (.nx, E20 z0 z1 z2 z3 z4 z5 z6 z7 z8 (dS Rw) z10 z11 z12 (dS (.int 0)) (dS Rw) z15 z16 z17 z18 z19) := by
  simp [q_law_4]
theorem v4b {k : Int} (hk : ¬ k = 0) (e : f_law_bent [.l .rw p, .d Rw] = some (B, [.l .rw p', .d Rw])) : q_law_4 (E20 z0 (pS p) z2 z3 z4 z5 z6 z7 z8 (dS Rw) z10 z11 z12 (dS (.int k)) z14 z15 z16 z17 z18 z19) = some (.nx, E20 z0 (pS p') z2 z3 z4 z5 z6 z7 z8 (dS Rw) z10 z11 z12 (dS (.int k)) (dS B) z15 z16 z17 z18 z19) := by
  simp [q_law_4, hk, e]
theorem v5 (e1 : f_law_pick [.l .rw p, .d C] = some (W, [.l .rw p1, .d C])) (e2 : f_law_pick [.l .rw p1, .d (.list [Eo, A, W])] = some (O, [.l .rw p2, .d (.list [Eo, A, W])])) :
    q_law_5 (E20 z0 (pS p) z2 z3 (dS A) z5 z6 (dS C) (dS Eo) z9 z10 z11 z12 z13 z14 z15 z16 z17 z18 z19) = some (.nx, E20 z0 (pS p2) z2 z3 (dS A) z5 z6 (dS C) (dS Eo) z9 z10 z11 z12 z13 z14 (dS O) z16 z17 z18 z19) := by
  simp [q_law_5, e1, e2]
theorem v6 {b2 : Bool} (e1 : f_law_led [.d X, .d A, .d B] = some (W, [.d X, .d A, .d B])) (h : aEq W O = some (.bool b)) (e2 : f_law_steps [.d X, .d O] = some (.list ss, [.d X, .d O])) (h2 : aEq (.list ss) (.list []) = some (.bool b2)) :
    q_law_6 (E20 z0 z1 (dS X) z3 (dS A) z5 z6 z7 z8 z9 z10 z11 z12 z13 (dS B) (dS O) z16 z17 z18 z19) = some (.nx, E20 z0 z1 (dS X) z3 (dS A) z5 z6 z7 z8 z9 z10 z11 z12 z13 (dS B) (dS O) (dS (.bool (b && b2))) z17 z18 z19) := by
  cases b <;> simp [q_law_6, e1, h, e2, h2]
theorem v7 (e : f_judge_row [.d X, .d A, .d (.list L), .d O] = some (.bool b, [.d X, .d A, .d (.list L), .d O])) (e2 : f_law_same 4 [.d (.bool b), .d (.bool b)] = some (.bool true, [.d (.bool b), .d (.bool b)])) :
    q_law_7 (E20 z0 z1 (dS X) z3 (dS A) z5 z6 z7 z8 z9 z10 z11 z12 z13 (dS (.list L)) (dS O) (dS (.bool b)) z17 z18 z19) = some (.nx, E20 z0 z1 (dS X) z3 (dS A) z5 z6 z7 z8 z9 z10 z11 z12 z13 (dS (.list L)) (dS O) (dS (.bool b)) z17 z18 z19) := by
  simp [q_law_7, e, e2]
theorem v21 (e : f_law_pool [.d A] = some (.list p, [.d A])) : q_law_21 (E20 (dS A) none none none none none none none none none none none none none none none none none none none) = some (.nx, E20 (dS A) (pS p) none none none none none none none none none none none none none none none none none none) := by
  simp [q_law_21, e]
theorem v22 (e : f_law_book [.l .rw p] = some (X, [.l .rw p'])) : q_law_22 (E20 z0 (pS p) z2 z3 z4 z5 z6 z7 z8 z9 z10 z11 z12 z13 z14 z15 z16 z17 z18 z19) = some (.nx, E20 z0 (pS p') (dS X) z3 z4 z5 z6 z7 z8 z9 z10 z11 z12 z13 z14 z15 z16 z17 z18 z19) := by
  simp [q_law_22, e]
theorem v23 (e1 : f_law_copied 4 [.d X] = some (X, [.d X])) (e2 : f_is_book [.d X] = some (.bool true, [.d X])) : q_law_23 (E20 z0 z1 (dS X) z3 z4 z5 z6 z7 z8 z9 z10 z11 z12 z13 z14 z15 z16 z17 z18 z19) = some (.nx, E20 z0 z1 (dS X) z3 z4 z5 z6 z7 z8 z9 z10 z11 z12 z13 z14 z15 z16 z17 z18 z19) := by
  simp [q_law_23, e1, e2]
theorem v25a (e : f_is_book [.d W] = some (.bool false, [.d W])) : c_law_7 (E20 z0 z1 z2 z3 z4 z5 z6 z7 z8 z9 z10 z11 z12 z13 z14 z15 z16 (dS W) z18 z19) = some (.bool true, E20 z0 z1 z2 z3 z4 z5 z6 z7 z8 z9 z10 z11 z12 z13 z14 z15 z16 (dS W) z18 z19) := by
  simp [c_law_7, e]
theorem v25 (c : eComp (iSeq (eCall f_law_wrong [])) (.v 17) [17] tTrue c_law_7 (E20 z0 z1 z2 z3 z4 z5 z6 z7 z8 z9 z10 z11 z12 z13 z14 z15 z16 z17 z18 z19) = some (.list L, E20 z0 z1 z2 z3 z4 z5 z6 z7 z8 z9 z10 z11 z12 z13 z14 z15 z16 z17 z18 z19)) (a : aAll [.list L] = some (.bool true)) (e : f_is_book [.d (.list [])] = some (.bool true, [.d (.list [])])) :
    q_law_25 (E20 z0 z1 z2 z3 z4 z5 z6 z7 z8 z9 z10 z11 z12 z13 z14 z15 z16 z17 z18 z19) = some (.rt (.bool true), E20 z0 z1 z2 z3 z4 z5 z6 z7 z8 z9 z10 z11 z12 z13 z14 z15 z16 z17 z18 z19) := by
  simp [q_law_25, c, a, e]
end
end G
/-! k82: the law. -/
namespace G
open PySem L2 DL Lg
/-- a pick from a long list -/
theorem pick_big {ns : List Int} {c : Nat} {p opts : List D} (hb : Bits ns) (hp : Pool ns c p) (hc : c < 2 ^ 59) (l0 : 0 < opts.length) (l1 : opts.length ≤ 1000000) :
    ∃ d p', f_law_pick [.l .rw p, .d (.list opts)] = some (d, [.l .rw p', .d (.list opts)]) ∧ d ∈ opts ∧ Pool ns (c + 1) p' := by
  obtain ⟨r, p', e, r0, r1, hp'⟩ := draw_eq hb hp hc (l := opts.length) (by omega) (by omega)
  have hr : r.toNat < opts.length := by omega
  have e2 : atI opts r = some opts[r.toNat] := by
    have := atI_nat (xs := opts) (j := r.toNat) (v := opts[r.toNat]) (List.getElem?_eq_getElem hr)
    rwa [Int.toNat_of_nonneg r0] at this
  refine ⟨opts[r.toNat], p', ?_, List.getElem_mem hr, hp'⟩
  simp (disch := omega) [f_law_pick, m_law_pick, e, e2]
theorem Dt.datas {z : Option DL.S} (h : Dt z) {env : DL.Env} {i : Nat} (e : env[i]? = some z) : datas [i] env = true := by
  rw [datas_one, e]
  rcases h with rfl | ⟨x, rfl⟩ <;> rfl
theorem eqv_rD (a b : Ru) : PyData.eqv (rD a) (rD b) = decide (a = b) := by
  show PyData.eqvAll [tS a.1, tS a.2] [tS b.1, tS b.2] = _
  rw [PySem.W.eqv_all_cons, PySem.W.eqv_all_cons, eqv_tS, eqv_tS]
  obtain ⟨a1, a2⟩ := a
  obtain ⟨b1, b2⟩ := b
  by_cases h1 : a1 = b1 <;> by_cases h2 : a2 = b2 <;> simp [h1, h2, PyData.eqvAll]
theorem eqvAll_rD : ∀ a b : List Ru, PyData.eqvAll (a.map rD) (b.map rD) = decide (a = b)
  | [], [] => by simp [PyData.eqvAll]
  | [], y :: b => by simp [PyData.eqvAll]
  | x :: a, [] => by simp [PyData.eqvAll]
  | x :: a, y :: b => by
    show PyData.eqvAll (rD x :: a.map rD) (rD y :: b.map rD) = _
    rw [PySem.W.eqv_all_cons, eqvAll_rD a b, eqv_rD]
    by_cases h : x = y
    · subst h; simp
    · simp [h]
theorem lay_RD {R : List Ru} (h : ∀ r ∈ R, Lt r.1 ∧ Lt r.2) : PyData.canLayAll0 (R.map rD) = true := by
  induction R with
  | nil => rfl
  | cons x a ih =>
    show ((PyData.canLay0 (tS x.1) && (PyData.canLay0 (tS x.2) && true)) && PyData.canLayAll0 (a.map rD)) = true
    rw [ih fun y hy => h y (List.mem_cons_of_mem _ hy), (Bool.and_eq_true_iff.mp (shaped_tS (h x List.mem_cons_self).1)).1, (Bool.and_eq_true_iff.mp (shaped_tS (h x List.mem_cons_self).2)).1]
    rfl
theorem depth_RD (R : List Ru) : PyData.depthAll (R.map rD) ≤ 1 := by
  induction R with
  | nil => exact Nat.zero_le _
  | cons t l ih =>
    show max (rD t).depth (PyData.depthAll (l.map rD)) ≤ 1
    refine Nat.max_le.mpr ⟨?_, ih⟩
    simp [PyData.depth, PyData.depthAll, tS]
theorem shaped_RD {R : List Ru} (h : ∀ r ∈ R, Lt r.1 ∧ Lt r.2) : SeqAt.shaped (RD R) = true := Bool.and_eq_true_iff.mpr ⟨lay_RD h, decide_eq_true (by
  have := depth_RD R
  show PyData.depthAll (R.map rD) + 1 ≤ 64
  omega)⟩
theorem ne_RD {R : List Ru} (h : ∀ r ∈ R, Lt r.1 ∧ Lt r.2) : aNe (RD R) (RD R) = some (.bool false) := by
  unfold aNe
  rw [if_pos ⟨shaped_RD h, shaped_RD h⟩]
  show some (PyData.bool (!PyData.eqvAll _ _)) = _
  rw [eqvAll_rD]
  simp
theorem ne_tS {a : Tx} (h : Lt a) : aNe (tS a) (tS a) = some (.bool false) := by
  unfold aNe
  rw [if_pos ⟨shaped_tS h, shaped_tS h⟩, eqv_tS]
  simp
section
variable {z0 z1 z2 z3 z4 z5 z6 z7 z8 z9 z10 z11 z12 z13 z14 z15 z16 z17 z18 z19 : Option DL.S}
theorem stp_le {R : List Ru} (hR : Bk R) {t : Tx} (hn : t.length ≤ 1000) : (stp R t).length ≤ 100000 := by
  rw [← stpK_all]
  have h1 := stpK_le R t t.length
  have h2 : t.length * R.length ≤ 1000 * 100 := Nat.mul_le_mul hn hR.few
  omega
theorem c14 {R : List Ru} {t : Tx} (M : Rm R t) (h11 : Dt z11) : q_law_14 (E20 z0 z1 (dS (RD R)) z3 (dS (tS t)) z5 (dS (.list ((stp R t).map sD))) z7 z8 z9 z10 z11 z12 z13 z14 z15 z16 z17 z18 z19) = some (.nx, E20 z0 z1 (dS (RD R)) z3 (dS (tS t)) z5 (dS (.list ((stp R t).map sD))) z7 z8 z9 z10 z11 z12 z13 z14 z15 z16 z17 z18 z19) := by
  have ok := M.ok t .refl
  refine v14 (L := ((stp R t).map fun _ => true).map .bool) ?_ ((ev_all _).trans (by congr 2; simp))
  rw [List.map_map]
  refine comp_map (l := stp R t) (g := sD) (f := _) ?_ (by simp) (h11.datas rfl) (szS (by have := stp_le M.bk ok.2; omega)) fun s hs => ?_
  · generalize (stp R t).map sD = Y
    generalize RD R = X
    simp
  · have hh := sted_all M.bk ok.2 hs
    have hv : sted R t s ∈ nxt R t := List.mem_map.mpr ⟨s, hs, rfl⟩
    have lw := (M.ok _ (.step .refl hv)).1
    exact v14a hh.1 hh.2 ((eq_tS lw lw).trans (by simp))
theorem c15 {R : List Ru} {t : Tx} {B : List Tx} (hS : Short R) (M : Rm R t) (hB : EndsL R t B) (hl : B.length ≤ 100000) (h8 : Dt z8) : q_law_15 (E20 z0 z1 z2 z3 (dS (tS t)) z5 z6 (dS (.list (B.map tS))) z8 z9 z10 z11 z12 z13 z14 z15 z16 z17 z18 z19) = some (.nx, E20 z0 z1 z2 z3 (dS (tS t)) z5 z6 (dS (.list (B.map tS))) z8 z9 z10 z11 z12 z13 z14 z15 z16 z17 z18 z19) := by
  have ok := M.ok t .refl
  refine v15 (L := (B.map fun _ => false).map .bool) ?_ ((ev_any _).trans (by congr 2; simp))
  rw [List.map_map]
  refine comp_map (l := B) (g := tS) (f := _) ?_ (by simp) (h8.datas rfl) (szS (by omega)) fun w hw => ?_
  · generalize B.map tS = Y
    generalize tS t = A
    simp
  · have hr := ((hB.iff w).mp hw).1
    have := hr.len hS
    exact v15a (len_tS (by omega)) (len_tS (by omega)) (by omega)
/-- the law's walk along the row -/
theorem c18 {R : List Ru} {t0 : Tx} (M : Rm R t0) : ∀ {t e : Tx} {row : List (Nat × Nat)}, Gr R t row e → Lg.Reach R t0 t → ∀ (y11 y12 : Option DL.S), Dt y11 → Dt y12 → ∃ x11 x12, Dt x11 ∧ Dt x12 ∧
    forL (.v 11) l_law_4 (row.map sD) (E20 z0 z1 (dS (RD R)) z3 z4 z5 z6 z7 z8 z9 (dS (tS t)) y11 y12 z13 z14 z15 z16 z17 none none) = some (.nx, E20 z0 z1 (dS (RD R)) z3 z4 z5 z6 z7 z8 z9 (dS (tS e)) x11 x12 z13 z14 z15 z16 z17 none none) := by
  intro t e row g
  induction g with
  | done h => intro _ y11 y12 h1 h2; exact ⟨y11, y12, h1, h2, rfl⟩
  | @step t e s row hs hm g ih =>
    intro hr y11 y12 h1 h2
    have ok := M.ok t hr
    have hv : sted R t s ∈ nxt R t := List.mem_map.mpr ⟨s, hs, rfl⟩
    obtain ⟨x11, x12, d1, d2, w⟩ := ih (.step hr hv) (dS (sD s)) (dS (tri R s)) (.of _) (.of _)
    refine ⟨x11, x12, d1, d2, ?_⟩
    have b1 : bindPat (.v 11) (sD s) (E20 z0 z1 (dS (RD R)) z3 z4 z5 z6 z7 z8 z9 (dS (tS t)) y11 y12 z13 z14 z15 z16 z17 none none) = some (E20 z0 z1 (dS (RD R)) z3 z4 z5 z6 z7 z8 z9 (dS (tS t)) (dS (sD s)) y12 z13 z14 z15 z16 z17 none none) := rfl
    have cc : eComp (iSeq (eCall f_law_steps [(.p 2), (.p 10)])) (.t [(.v 18), (.v 19)]) [18, 19] tTrue c_law_3 (E20 z0 z1 (dS (RD R)) z3 z4 z5 z6 z7 z8 z9 (dS (tS t)) (dS (sD s)) y12 z13 z14 z15 z16 z17 none none) = some (.list ((stp R t).map (tri R)), E20 z0 z1 (dS (RD R)) z3 z4 z5 z6 z7 z8 z9 (dS (tS t)) (dS (sD s)) y12 z13 z14 z15 z16 z17 none none) := by
      refine comp_two (l := stp R t) (g1 := fun s => nI s.1) (g2 := fun s => nI s.2) (f := tri R) ?_ (by decide) (by simp) (by simp) rfl (szS (by have := stp_le M.bk ok.2; omega)) fun u hu => ?_
      · have e := lsteps_eq M.bk ok.1 ok.2
        have e' : f_law_steps [.d (RD R), .d (tS t)] = some (.list ((stp R t).map fun x => .tuple [nI x.1, nI x.2]), [.d (RD R), .d (tS t)]) := e
        generalize ((stp R t).map fun x => PyData.tuple [nI x.1, nI x.2]) = L at *
        generalize RD R = X at *
        generalize tS t = A at *
        simp [e']
      · obtain ⟨h1, h2, h3⟩ := mem_stp.mp hu
        exact v1a (atR h2) (len_tS (by have := (M.bk.lef h2).2.1; omega))
    have s1 := v1 cc hm
    have ne : aNe (sD s) (sD s) = some (.bool false) := by
      unfold aNe
      rw [if_pos ⟨rfl, rfl⟩]
      have := eqv_sI (zI s) (zI s)
      rw [decide_eq_true rfl] at this
      have this : PyData.eqv (sD s) (sD s) = true := this
      rw [this]
      rfl
    have s2 := v2x (z0 := z0) (z1 := z1) (z2 := dS (RD R)) (z3 := z3) (z4 := z4) (z5 := z5) (z6 := z6) (z7 := z7) (z8 := z8) (z9 := z9) (z10 := dS (tS t)) (z13 := z13) (z14 := z14) (z15 := z15) (z16 := z16) (z17 := z17) (z18 := none) (z19 := none) (s := sD s) (a := nI s.1) (b := .int (-((Lg.lef R s.2).length : Int))) (c := nI s.2) rfl ne
    have s3 := v3 (z0 := z0) (z1 := z1) (z3 := z3) (z4 := z4) (z5 := z5) (z6 := z6) (z7 := z7) (z8 := z8) (z9 := z9) (z12 := dS (tri R s)) (z13 := z13) (z14 := z14) (z15 := z15) (z16 := z16) (z17 := z17) (z18 := none) (z19 := none) (sted_all M.bk ok.2 hs).2
    rw [List.map_cons, ev_forL, b1, Option.bind_some]
    have body : l_law_4 (E20 z0 z1 (dS (RD R)) z3 z4 z5 z6 z7 z8 z9 (dS (tS t)) (dS (sD s)) y12 z13 z14 z15 z16 z17 none none) = some (.nx, E20 z0 z1 (dS (RD R)) z3 z4 z5 z6 z7 z8 z9 (dS (tS (sted R t s))) (dS (sD s)) (dS (tri R s)) z13 z14 z15 z16 z17 none none) := by
      unfold l_law_4
      rw [seq_nx s1, seq_nx s2, s3]
    rw [body]
    exact w
end
/-- three rows judged -/
theorem c20 {ns : List Int} {R : List Ru} {t e : Tx} {row : List (Nat × Nat)} {B : List Tx} {z0 z3 z5 z6 z10 z11 z12 : Option DL.S} (hb : Bits ns) (M : Rm R t) (hB : EndsL R t B) (hl : B.length ≤ 100000) (g : Gr R t row e) (hrow : row.length ≤ 1000) : ∀ (m : Nat) (lo c : Nat) (p : List D) (z13 z14 z15 z16 : Option DL.S), Pool ns c p → c + 20 * m < 2 ^ 48 → ∃ p' y13 y14 y15 y16,
    forL (.v 13) l_law_5 (DL.upTo (lo : Int) m) (E20 z0 (pS p) (dS (RD R)) z3 (dS (tS t)) z5 z6 (dS (.list (B.map tS))) (dS (tS e)) (dS (.list (row.map sD))) z10 z11 z12 z13 z14 z15 z16 none none none) =
      some (.nx, E20 z0 (pS p') (dS (RD R)) z3 (dS (tS t)) z5 z6 (dS (.list (B.map tS))) (dS (tS e)) (dS (.list (row.map sD))) z10 z11 z12 y13 y14 y15 y16 none none none) ∧ Pool ns (c + 20 * m) p'
  | 0, lo, c, p, z13, z14, z15, z16, hp, _ => ⟨p, z13, z14, z15, z16, rfl, hp⟩
  | m + 1, lo, c, p, z13, z14, z15, z16, hp, hc => by
    obtain ⟨re, se⟩ := g.reach
    have ok := M.ok t .refl
    have oke := M.ok e re
    have heB : e ∈ B := (hB.iff e).mpr ⟨re, se⟩
    have hBL : ∀ w ∈ B, Lg.Reach R t w := fun w hw => ((hB.iff w).mp hw).1
    have b1 : bindPat (.v 13) (.int (lo : Int)) (E20 z0 (pS p) (dS (RD R)) z3 (dS (tS t)) z5 z6 (dS (.list (B.map tS))) (dS (tS e)) (dS (.list (row.map sD))) z10 z11 z12 z13 z14 z15 z16 none none none) = some (E20 z0 (pS p) (dS (RD R)) z3 (dS (tS t)) z5 z6 (dS (.list (B.map tS))) (dS (tS e)) (dS (.list (row.map sD))) z10 z11 z12 (dS (.int (lo : Int))) z14 z15 z16 none none none) := rfl
    obtain ⟨row', p1, s4, hp1⟩ : ∃ (row' : List (Int × Int)) (p1 : List D), q_law_4 (E20 z0 (pS p) (dS (RD R)) z3 (dS (tS t)) z5 z6 (dS (.list (B.map tS))) (dS (tS e)) (dS (.list (row.map sD))) z10 z11 z12 (dS (.int (lo : Int))) z14 z15 z16 none none none) =
        some (.nx, E20 z0 (pS p1) (dS (RD R)) z3 (dS (tS t)) z5 z6 (dS (.list (B.map tS))) (dS (tS e)) (dS (.list (row.map sD))) z10 z11 z12 (dS (.int (lo : Int))) (dS (.list (row'.map sI))) z15 z16 none none none) ∧ Pool ns (c + 10) p1 := by
      by_cases h0 : lo = 0
      · subst h0
        refine ⟨row.map zI, p, ?_, hp.mono (by omega)⟩
        rw [← sD_zI]
        exact v4a
      · obtain ⟨row', p1, e1, hp1⟩ := bent_eq (row := row) hb hp (by omega) hrow
        exact ⟨row', p1, v4b (by omega) e1, hp1⟩
    obtain ⟨W, p2, e2, hW, hp2⟩ := pick_big hb hp1 (by omega) (opts := B.map tS) (by rw [List.length_map]; exact List.length_pos_of_mem heB) (by rw [List.length_map]; omega)
    obtain ⟨w, hw, rfl⟩ := List.mem_map.mp hW
    obtain ⟨O, p3, e3, hO, hp3⟩ := pick_eq hb hp2 (by omega) (opts := [tS e, tS t, tS w]) (by simp) (by simp)
    obtain ⟨o, ro, rfl⟩ : ∃ o, Lg.Reach R t o ∧ O = tS o := by
      simp only [List.mem_cons, List.not_mem_nil, or_false] at hO
      rcases hO with rfl | rfl | rfl
      · exact ⟨e, re, rfl⟩
      · exact ⟨t, .refl, rfl⟩
      · exact ⟨w, hBL w hw, rfl⟩
    have oko := M.ok o ro
    have s5 := v5 (z0 := z0) (z2 := dS (RD R)) (z3 := z3) (z5 := z5) (z6 := z6) (z9 := dS (.list (row.map sD))) (z10 := z10) (z11 := z11) (z12 := z12) (z13 := dS (.int (lo : Int))) (z14 := dS (.list (row'.map sI))) (z15 := z15) (z16 := z16) (z17 := none) (z18 := none) (z19 := none) e2 e3
    have s6 := v6 (z0 := z0) (z1 := pS p3) (z3 := z3) (z5 := z5) (z6 := z6) (z7 := dS (.list (B.map tS))) (z8 := dS (tS e)) (z9 := dS (.list (row.map sD))) (z10 := z10) (z11 := z11) (z12 := z12) (z13 := dS (.int (lo : Int))) (z16 := z16) (z17 := none) (z18 := none) (z19 := none) (lled_eq M row') (eq_optT (fun w h => (M.ok w (ledL_reach .refl h)).1) oko.1) (lsteps_eq M.bk oko.1 oko.2) (eq_nil_sD _)
    have sm : f_law_same 4 [.d (.bool (judg R t row' o)), .d (.bool (judg R t row' o))] = some (.bool true, [.d (.bool (judg R t row' o)), .d (.bool (judg R t row' o))]) := same_self 3 _ trivial
    have s7 := v7 (z0 := z0) (z1 := pS p3) (z3 := z3) (z5 := z5) (z6 := z6) (z7 := dS (.list (B.map tS))) (z8 := dS (tS e)) (z9 := dS (.list (row.map sD))) (z10 := z10) (z11 := z11) (z12 := z12) (z13 := dS (.int (lo : Int))) (z17 := none) (z18 := none) (z19 := none) (judge_eq M oko.1 oko.2 row') sm
    obtain ⟨p', y13, y14, y15, y16, w2, hp'⟩ := c20 (z0 := z0) (z3 := z3) (z5 := z5) (z6 := z6) (z10 := z10) (z11 := z11) (z12 := z12) hb M hB hl g hrow m (lo + 1) (c + 20) p3 (dS (.int (lo : Int))) (dS (.list (row'.map sI))) (dS (tS o)) (dS (.bool (judg R t row' o))) (hp3.mono (by omega)) (by omega)
    refine ⟨p', y13, y14, y15, y16, ?_, hp'.mono (by omega)⟩
    show forL (.v 13) l_law_5 (.int (lo : Int) :: DL.upTo ((lo : Int) + 1) m) _ = _
    rw [ev_forL, b1, Option.bind_some]
    have body : l_law_5 (E20 z0 (pS p) (dS (RD R)) z3 (dS (tS t)) z5 z6 (dS (.list (B.map tS))) (dS (tS e)) (dS (.list (row.map sD))) z10 z11 z12 (dS (.int (lo : Int))) z14 z15 z16 none none none) =
        some (.nx, E20 z0 (pS p3) (dS (RD R)) z3 (dS (tS t)) z5 z6 (dS (.list (B.map tS))) (dS (tS e)) (dS (.list (row.map sD))) z10 z11 z12 (dS (.int (lo : Int))) (dS (.list (row'.map sI))) (dS (tS o)) (dS (.bool (judg R t row' o))) none none none) := by
      unfold l_law_5
      rw [seq_nx s4, seq_nx s5, seq_nx s6]
      exact s7
    rw [body]
    exact w2
theorem Gr.len {R : List Ru} (hS : Short R) {t e : Tx} {row : List (Nat × Nat)} (g : Gr R t row e) : row.length ≤ t.length := by
  induction g with
  | done _ => exact Nat.zero_le _
  | step hs _ _ ih =>
    have := nxt_len hS (List.mem_map.mpr ⟨_, hs, rfl⟩)
    rw [List.length_cons]; omega
end G
/-! k82: the law holds. -/
namespace G
open PySem L2 DL Lg
theorem pl_sD (n : Nat) (s : Nat × Nat) : Pl (n + 1) (sD s) := ⟨by simp, fun x hx => by
  rcases List.mem_cons.mp hx with rfl | hx
  · cases n <;> trivial
  · rw [List.mem_singleton] at hx; subst hx; cases n <;> trivial⟩
theorem turn82 {ns : List Int} {c : Nat} {p : List D} {R : List Ru} {z0 z3 z4 z5 z6 z7 z8 z9 z10 z11 z12 z13 z14 z15 z16 : Option DL.S} (hb : Bits ns) (hp : Pool ns c p) (hc : c < 2 ^ 45) (B : Bok R) (h8 : Dt z8) (h11 : Dt z11) (h12 : Dt z12) :
    ∃ p' y4 y5 y6 y7 y8 y9 y10 y11 y12 y13 y14 y15 y16, Pool ns (c + 500) p' ∧ Dt y8 ∧ Dt y11 ∧ Dt y12 ∧ l_law_6 (E20 z0 (pS p) (dS (RD R)) z3 z4 z5 z6 z7 z8 z9 z10 z11 z12 z13 z14 z15 z16 none none none) =
      some (.nx, E20 z0 (pS p') (dS (RD R)) z3 y4 y5 y6 y7 y8 y9 y10 y11 y12 y13 y14 y15 y16 none none none) := by
  obtain ⟨p1, e1, hp1⟩ := next_eq hb hp (by omega)
  obtain ⟨t, p2, e2, ot, lt, hp2⟩ := letters_drawn (most := 9) hb hp1 (by omega) (by decide)
  have M := B.rm ot (by omega)
  have hS := B.short
  have ok := M.ok t .refl
  obtain ⟨En, hE, e3, hl⟩ := ends_eq M
  obtain ⟨En', hE', e4⟩ := lends_eq hS M
  obtain rfl := hE.one hE'
  obtain ⟨row, e, g, e5⟩ := set_eq hS M
  obtain ⟨re, se⟩ := g.reach
  have oke := M.ok e re
  have lrow := Gr.len hS g
  have sl := stp_le M.bk ok.2
  have hEL : ∀ w ∈ En, Lt w := fun w hw => (M.ok w ((hE.iff w).mp hw).1).1
  have sm := same_self 3 (.list [.list ((stp R t).map sD), .list (En.map tS)]) ⟨by simp, fun x hx => by
    rcases List.mem_cons.mp hx with rfl | hx
    · exact ⟨by rw [List.length_map]; omega, fun y hy => by
        obtain ⟨s, _, rfl⟩ := List.mem_map.mp hy
        exact pl_sD 0 s⟩
    · rw [List.mem_singleton] at hx; subst hx
      exact ⟨by rw [List.length_map]; omega, fun y hy => by
        obtain ⟨w, hw, rfl⟩ := List.mem_map.mp hy
        exact pl_tS 1 (hEL w hw)⟩⟩
  have a1 := v8 (z0 := z0) (z2 := dS (RD R)) (z3 := z3) (z4 := z4) (z5 := z5) (z6 := z6) (z7 := z7) (z8 := z8) (z9 := z9) (z10 := z10) (z11 := z11) (z12 := z12) (z13 := z13) (z14 := z14) (z15 := z15) (z16 := z16) (z17 := none) (z18 := none) (z19 := none) e1
  have a2 := v9 (z0 := z0) (z2 := dS (RD R)) (z3 := z3) (z4 := z4) (z5 := z5) (z6 := z6) (z7 := z7) (z8 := z8) (z9 := z9) (z10 := z10) (z11 := z11) (z12 := z12) (z13 := z13) (z14 := z14) (z15 := z15) (z16 := z16) (z17 := none) (z18 := none) (z19 := none) e2
  have a3 := v10 (L := R.map rD) (z0 := z0) (z1 := pS p2) (z3 := z3) (z4 := dS (tS t)) (z5 := z5) (z6 := z6) (z7 := z7) (z8 := z8) (z9 := z9) (z10 := z10) (z11 := z11) (z12 := z12) (z13 := z13) (z14 := z14) (z15 := z15) (z16 := z16) (z17 := none) (z18 := none) (z19 := none)
  have a4 := v11 (z0 := z0) (z1 := pS p2) (z3 := z3) (z5 := dS (RD R)) (z6 := z6) (z7 := z7) (z8 := z8) (z9 := z9) (z10 := z10) (z11 := z11) (z12 := z12) (z13 := z13) (z14 := z14) (z15 := z15) (z16 := z16) (z17 := none) (z18 := none) (z19 := none) (lsteps_eq M.bk ok.1 ok.2)
  have a5 := v12 (z0 := z0) (z1 := pS p2) (z2 := dS (RD R)) (z3 := z3) (z6 := dS (.list ((stp R t).map sD))) (z7 := z7) (z8 := z8) (z9 := z9) (z10 := z10) (z11 := z11) (z12 := z12) (z13 := z13) (z14 := z14) (z15 := z15) (z16 := z16) (z17 := none) (z18 := none) (z19 := none) e3
  have a6 := v13 (z0 := z0) (z1 := pS p2) (z3 := z3) (z8 := z8) (z9 := z9) (z10 := z10) (z11 := z11) (z12 := z12) (z13 := z13) (z14 := z14) (z15 := z15) (z16 := z16) (z17 := none) (z18 := none) (z19 := none) (steps_eq M.bk ok.1 ok.2) e4 sm (ne_RD M.bk.lt)
  have a7 := c14 (z0 := z0) (z1 := pS p2) (z3 := z3) (z5 := dS (RD R)) (z7 := dS (.list (En.map tS))) (z8 := z8) (z9 := z9) (z10 := z10) (z11 := z11) (z12 := z12) (z13 := z13) (z14 := z14) (z15 := z15) (z16 := z16) (z17 := none) (z18 := none) (z19 := none) M h11
  have a8 := c15 (z0 := z0) (z1 := pS p2) (z2 := dS (RD R)) (z3 := z3) (z5 := dS (RD R)) (z6 := dS (.list ((stp R t).map sD))) (z8 := z8) (z9 := z9) (z10 := z10) (z11 := z11) (z12 := z12) (z13 := z13) (z14 := z14) (z15 := z15) (z16 := z16) (z17 := none) (z18 := none) (z19 := none) hS M hE hl h8
  have a9 := v16 (z0 := z0) (z1 := pS p2) (z2 := dS (RD R)) (z3 := z3) (z6 := dS (.list ((stp R t).map sD))) (z7 := dS (.list (En.map tS))) (z8 := z8) (z9 := z9) (z10 := z10) (z11 := z11) (z12 := z12) (z13 := z13) (z14 := z14) (z15 := z15) (z16 := z16) (z17 := none) (z18 := none) (z19 := none) e5
  have a10 := v17 (A := tS t) (z0 := z0) (z1 := pS p2) (z2 := dS (RD R)) (z3 := z3) (z5 := dS (RD R)) (z6 := dS (.list ((stp R t).map sD))) (z7 := dS (.list (En.map tS))) (z8 := dS (tS e)) (z9 := dS (.list (row.map sD))) (z10 := z10) (z11 := z11) (z12 := z12) (z13 := z13) (z14 := z14) (z15 := z15) (z16 := z16) (z17 := none) (z18 := none) (z19 := none)
  obtain ⟨x11, x12, d11, d12, w18⟩ := c18 (z0 := z0) (z1 := pS p2) (z3 := z3) (z4 := dS (tS t)) (z5 := dS (RD R)) (z6 := dS (.list ((stp R t).map sD))) (z7 := dS (.list (En.map tS))) (z8 := dS (tS e)) (z9 := dS (.list (row.map sD))) (z13 := z13) (z14 := z14) (z15 := z15) (z16 := z16) (z17 := none) M g .refl z11 z12 h11 h12
  have a11 : q_law_18 (E20 z0 (pS p2) (dS (RD R)) z3 (dS (tS t)) (dS (RD R)) (dS (.list ((stp R t).map sD))) (dS (.list (En.map tS))) (dS (tS e)) (dS (.list (row.map sD))) (dS (tS t)) z11 z12 z13 z14 z15 z16 none none none) =
      some (.nx, E20 z0 (pS p2) (dS (RD R)) z3 (dS (tS t)) (dS (RD R)) (dS (.list ((stp R t).map sD))) (dS (.list (En.map tS))) (dS (tS e)) (dS (.list (row.map sD))) (dS (tS e)) x11 x12 z13 z14 z15 z16 none none none) := by
    unfold q_law_18
    rw [ev_for]
    have : iSeq (eV 9) (E20 z0 (pS p2) (dS (RD R)) z3 (dS (tS t)) (dS (RD R)) (dS (.list ((stp R t).map sD))) (dS (.list (En.map tS))) (dS (tS e)) (dS (.list (row.map sD))) (dS (tS t)) z11 z12 z13 z14 z15 z16 none none none) =
        some (row.map sD, E20 z0 (pS p2) (dS (RD R)) z3 (dS (tS t)) (dS (RD R)) (dS (.list ((stp R t).map sD))) (dS (.list (En.map tS))) (dS (tS e)) (dS (.list (row.map sD))) (dS (tS t)) z11 z12 z13 z14 z15 z16 none none none) := rfl
    rw [this, Option.bind_some]
    exact w18
  have le := lsteps_eq M.bk oke.1 oke.2
  rw [se] at le
  have heE : e ∈ En := (hE.iff e).mpr ⟨re, se⟩
  have nI' := ev_notIn_tS oke.1 hEL
  rw [decide_eq_true heE] at nI'
  have a12 := v19 (z0 := z0) (z1 := pS p2) (z3 := z3) (z4 := dS (tS t)) (z5 := dS (RD R)) (z6 := dS (.list ((stp R t).map sD))) (z9 := dS (.list (row.map sD))) (z11 := x11) (z12 := x12) (z13 := z13) (z14 := z14) (z15 := z15) (z16 := z16) (z17 := none) (z18 := none) (z19 := none) (ne_tS oke.1) le (ne_nil_sD []) nI'
  obtain ⟨p3, y13, y14, y15, y16, w20, hp3⟩ := c20 (z0 := z0) (z3 := z3) (z5 := dS (RD R)) (z6 := dS (.list ((stp R t).map sD))) (z10 := dS (tS e)) (z11 := x11) (z12 := x12) hb M hE hl g (by omega) 3 0 _ p2 z13 z14 z15 z16 hp2 (by omega)
  have a13 : q_law_20 (E20 z0 (pS p2) (dS (RD R)) z3 (dS (tS t)) (dS (RD R)) (dS (.list ((stp R t).map sD))) (dS (.list (En.map tS))) (dS (tS e)) (dS (.list (row.map sD))) (dS (tS e)) x11 x12 z13 z14 z15 z16 none none none) =
      some (.nx, E20 z0 (pS p3) (dS (RD R)) z3 (dS (tS t)) (dS (RD R)) (dS (.list ((stp R t).map sD))) (dS (.list (En.map tS))) (dS (tS e)) (dS (.list (row.map sD))) (dS (tS e)) x11 x12 y13 y14 y15 y16 none none none) := by
    unfold q_law_20
    rw [ev_for]
    have : iOp rng1 [(.e (eK (.int 3)))] (E20 z0 (pS p2) (dS (RD R)) z3 (dS (tS t)) (dS (RD R)) (dS (.list ((stp R t).map sD))) (dS (.list (En.map tS))) (dS (tS e)) (dS (.list (row.map sD))) (dS (tS e)) x11 x12 z13 z14 z15 z16 none none none) =
        some (DL.upTo 0 3, E20 z0 (pS p2) (dS (RD R)) z3 (dS (tS t)) (dS (RD R)) (dS (.list ((stp R t).map sD))) (dS (.list (En.map tS))) (dS (tS e)) (dS (.list (row.map sD))) (dS (tS e)) x11 x12 z13 z14 z15 z16 none none none) := by simp
    rw [this, Option.bind_some]
    exact w20
  refine ⟨p3, dS (tS t), dS (RD R), dS (.list ((stp R t).map sD)), dS (.list (En.map tS)), dS (tS e), dS (.list (row.map sD)), dS (tS e), x11, x12, y13, y14, y15, y16, hp3.mono (by omega), .of _, d11, d12, ?_⟩
  unfold l_law_6
  rw [seq_nx a1, seq_nx a2, seq_nx a3, seq_nx a4, seq_nx a5, seq_nx a6, seq_nx a7, seq_nx a8, seq_nx a9, seq_nx a10, seq_nx a11, seq_nx a12]
  exact a13
theorem turns82 {ns : List Int} {R : List Ru} {z0 : Option DL.S} (hb : Bits ns) (B : Bok R) : ∀ (m : Nat) (lo : Int) (c : Nat) (p : List D) (z3 z4 z5 z6 z7 z8 z9 z10 z11 z12 z13 z14 z15 z16 : Option DL.S), Pool ns c p → c + 500 * m < 2 ^ 45 → Dt z8 → Dt z11 → Dt z12 →
    ∃ env', forL (.v 3) l_law_6 (DL.upTo lo m) (E20 z0 (pS p) (dS (RD R)) z3 z4 z5 z6 z7 z8 z9 z10 z11 z12 z13 z14 z15 z16 none none none) = some (.nx, env') ∧ ∃ p' y3 y4 y5 y6 y7 y8 y9 y10 y11 y12 y13 y14 y15 y16, env' = E20 z0 (pS p') (dS (RD R)) y3 y4 y5 y6 y7 y8 y9 y10 y11 y12 y13 y14 y15 y16 none none none
  | 0, lo, c, p, z3, z4, z5, z6, z7, z8, z9, z10, z11, z12, z13, z14, z15, z16, _, _, _, _, _ => ⟨_, rfl, p, z3, z4, z5, z6, z7, z8, z9, z10, z11, z12, z13, z14, z15, z16, rfl⟩
  | m + 1, lo, c, p, z3, z4, z5, z6, z7, z8, z9, z10, z11, z12, z13, z14, z15, z16, hp, hc, h8, h11, h12 => by
    obtain ⟨p1, y4, y5, y6, y7, y8, y9, y10, y11, y12, y13, y14, y15, y16, hp1, d8, d11, d12, e1⟩ := turn82 (z0 := z0) (z3 := dS (.int lo)) (z4 := z4) (z5 := z5) (z6 := z6) (z7 := z7) (z9 := z9) (z10 := z10) (z13 := z13) (z14 := z14) (z15 := z15) (z16 := z16) hb hp (by omega) B h8 h11 h12
    obtain ⟨env', e, he⟩ := turns82 (z0 := z0) hb B m (lo + 1) (c + 500) p1 (dS (.int lo)) y4 y5 y6 y7 y8 y9 y10 y11 y12 y13 y14 y15 y16 hp1 (by omega) d8 d11 d12
    refine ⟨env', ?_, he⟩
    have b1 : bindPat (.v 3) (.int lo) (E20 z0 (pS p) (dS (RD R)) z3 z4 z5 z6 z7 z8 z9 z10 z11 z12 z13 z14 z15 z16 none none none) = some (E20 z0 (pS p) (dS (RD R)) (dS (.int lo)) z4 z5 z6 z7 z8 z9 z10 z11 z12 z13 z14 z15 z16 none none none) := rfl
    show forL (.v 3) l_law_6 (.int lo :: DL.upTo (lo + 1) m) _ = _
    rw [ev_forL, b1, Option.bind_some, e1]
    exact e
theorem all_true {α : Type} (L : List α) : aAll [.list ((L.map fun _ => true).map .bool)] = some (.bool true) := by
  rw [ev_all]
  have : (L.map fun _ => true).all id = true := by simp
  rw [this]
theorem wrong_comp {F : Fn} {m : DL.E} {f : D → D} {env : DL.Env} {L : List D} (e : F [] = some (.list L, [])) (hl : L.length ≤ 1000) (hm : ∀ w ∈ L, m (env.set 17 (dS w)) = some (f w, env.set 17 (dS w))) (hi : 17 < env.length) (hd : datas [17] env = true) :
    eComp (iSeq (eCall F [])) (.v 17) [17] tTrue m env = some (.list (L.map f), env) := by
  have h := comp_pure (P := fun _ => true) (f := f) (t := tTrue) (m := m) (i := 17) (ds := L) (it := iSeq (eCall F [])) (env := env) (by simp [e]) hi hd (szS (by omega)) (fun _ _ => rfl) (fun d hd _ => hm d hd)
  rw [List.filter_eq_self.mpr (fun _ _ => rfl)] at h
  exact h
theorem law_eq {ns : List Int} (hb : Bits ns) : f_law [.d (scr ns)] = some (.bool true, [.d (scr ns)]) := by
  obtain ⟨p0, e0, hp0⟩ := pool_eq hb
  obtain ⟨R, p1, e1, B, hp1⟩ := book_drawn hb hp0 (by decide)
  have a1 := v21 e0
  have a2 := v22 (z0 := dS (scr ns)) (z2 := none) (z3 := none) (z4 := none) (z5 := none) (z6 := none) (z7 := none) (z8 := none) (z9 := none) (z10 := none) (z11 := none) (z12 := none) (z13 := none) (z14 := none) (z15 := none) (z16 := none) (z17 := none) (z18 := none) (z19 := none) e1
  have a3 := v23 (z0 := dS (scr ns)) (z1 := pS p1) (z3 := none) (z4 := none) (z5 := none) (z6 := none) (z7 := none) (z8 := none) (z9 := none) (z10 := none) (z11 := none) (z12 := none) (z13 := none) (z14 := none) (z15 := none) (z16 := none) (z17 := none) (z18 := none) (z19 := none) (copied_self 3 (RD R) (pl_RD 1 B.bk)) (is_book B)
  obtain ⟨env', e4, p', y3, y4, y5, y6, y7, y8, y9, y10, y11, y12, y13, y14, y15, y16, rfl⟩ := turns82 (z0 := dS (scr ns)) hb B 3 0 _ p1 none none none none none none none none none none none none none none hp1 (by omega) .no .no .no
  have a4 : q_law_24 (E20 (dS (scr ns)) (pS p1) (dS (RD R)) none none none none none none none none none none none none none none none none none) = some (.nx, E20 (dS (scr ns)) (pS p') (dS (RD R)) y3 y4 y5 y6 y7 y8 y9 y10 y11 y12 y13 y14 y15 y16 none none none) := by
    unfold q_law_24
    rw [ev_for]
    have : iOp rng1 [(.e (eK (.int 3)))] (E20 (dS (scr ns)) (pS p1) (dS (RD R)) none none none none none none none none none none none none none none none none none) = some (DL.upTo 0 3, E20 (dS (scr ns)) (pS p1) (dS (RD R)) none none none none none none none none none none none none none none none none none) := by simp
    rw [this, Option.bind_some]
    exact e4
  obtain ⟨L, eL, hll, hL⟩ := wrong_eq
  have a5 : q_law_25 (E20 (dS (scr ns)) (pS p') (dS (RD R)) y3 y4 y5 y6 y7 y8 y9 y10 y11 y12 y13 y14 y15 y16 none none none) = some (.rt (.bool true), E20 (dS (scr ns)) (pS p') (dS (RD R)) y3 y4 y5 y6 y7 y8 y9 y10 y11 y12 y13 y14 y15 y16 none none none) := by
    have hall := all_true L
    refine v25 ?_ hall book_nil
    rw [List.map_map]
    exact wrong_comp eL (by omega) (fun w hw => v25a (hL w hw)) (by simp) rfl
  have all : m_law (E20 (dS (scr ns)) none none none none none none none none none none none none none none none none none none none) = some (.rt (.bool true), E20 (dS (scr ns)) (pS p') (dS (RD R)) y3 y4 y5 y6 y7 y8 y9 y10 y11 y12 y13 y14 y15 y16 none none none) := by
    unfold m_law
    rw [seq_nx a1, seq_nx a2, seq_nx a3, seq_nx a4, a5]
  show fnD 20 m_law _ = _
  rw [ev_fn]
  have hh : ([DL.S.d (scr ns)].map some ++ List.replicate (20 - [DL.S.d (scr ns)].length) none : DL.Env) = E20 (dS (scr ns)) none none none none none none none none none none none none none none none none none none none := rfl
  rw [hh, all]
  rfl
end G
theorem law_true (ns : List Int) (h1 : ns.length ≤ 63) (h2 : ∀ z ∈ ns, PySem.Builtin.Int.intBits z ≤ 1048576) : ∃ r, G.f_law [.d (G.scr ns)] = some (.bool true, r) := ⟨_, G.law_eq (G.bits_of h1 h2)⟩
open PySem PySem.W PyProof.Rows DL
set_option maxHeartbeats 0 in
theorem PySem.Challenge.cw_inkwright_k82_whole_ends_of_texts_holds : PySem.Challenge.rw_inkwright_k82_whole_ends_of_texts.Holds := by
  w_on; o_law; k_head; (case hw => w_witness2)
  k_fill
  refine L2.walk_ofB (l := PySem.Challenge.rw_inkwright_k82_whole_ends_of_texts) (n := 63) (k := 7) (x := "script") (CX := fun _ => L2.CX0) (sp := fun w => DL.spD ⟨_, fun _ => False⟩ G.f_law 1) rfl (by decide) rfl ⟨rfl, by decide, by decide⟩ (fun w h Y => PySem.W.kIn_of Y) ?F (fun _ H a ns hl hb _ hS => DL.sp_script hS (law_true ns hl hb)) (fun _ _ _ _ _ h => h)
  case F =>
    intro w mg fa h KX GG hmg
    refine' G.all_mk KX GG hmg ?a1 ?l1 ?c1 ?k1 ?a2 ?l2 ?c2 ?k2 ?a3 ?l3 ?c3 ?k3 ?a4 ?l4 ?c4 ?k4 ?a5 ?l5 ?c5 ?k5 ?a6 ?l6 ?c6 ?k6 ?a7 ?l7 ?c7 ?k7 ?a8 ?l8 ?c8 ?k8 ?a9 ?l9 ?c9 ?k9 ?a10 ?l10 ?c10 ?k10 ?a11 ?l11 ?c11 ?k11 ?a12 ?l12 ?c12 ?k12 ?a13 ?l13 ?c13 ?k13 ?a14 ?l14 ?c14 ?k14 ?a15 ?l15 ?c15 ?k15 ?a16 ?l16 ?c16 ?k16 ?a17 ?l17 ?c17 ?k17 ?a18 ?l18 ?c18 ?k18 ?a19 ?l19 ?c19 ?k19 ?a20 ?l20 ?c20 ?k20 ?a21 ?l21 ?c21 ?k21 ?a22 ?l22 ?c22 ?k22 ?a23 ?l23 ?c23 ?k23 ?a24 ?l24 ?c24 ?k24 ?a25 ?l25 ?c25 ?k25 ?a26 ?l26 ?c26 ?k26 ?a27 ?l27 ?c27 ?k27 ?a28 ?l28 ?c28 ?k28 ?a29 ?l29 ?c29 ?k29 ?z0 ?z1 ?z2 ?z3 ?z4 ?z5 ?z6 ?z7 ?z8 ?z9 ?z10 ?z11 ?z12 ?z13 ?z14 ?dlg0 ?dlg1 ?dlg2
    (case a1 => k_is); (case l1 => k_is); (case c1 => k_is); (case k1 => k_is); (case a2 => k_is); (case l2 => k_is); (case c2 => k_is); (case k2 => k_is); (case a3 => k_is); (case l3 => k_is); (case c3 => k_is); (case k3 => k_is); (case a4 => k_is); (case l4 => k_is); (case c4 => k_is); (case k4 => k_is); (case a5 => k_is); (case l5 => k_is); (case c5 => k_is); (case k5 => k_is); (case a6 => k_is); (case l6 => k_is); (case c6 => k_is); (case k6 => k_is); (case a7 => k_is); (case l7 => k_is); (case c7 => k_is); (case k7 => k_is); (case a8 => k_is); (case l8 => k_is); (case c8 => k_is); (case k8 => k_is); (case a9 => k_is); (case l9 => k_is); (case c9 => k_is); (case k9 => k_is); (case a10 => k_is); (case l10 => k_is); (case c10 => k_is); (case k10 => k_is); (case a11 => k_is); (case l11 => k_is); (case c11 => k_is); (case k11 => k_is); (case a12 => k_is); (case l12 => k_is); (case c12 => k_is); (case k12 => k_is); (case a13 => k_is); (case l13 => k_is); (case c13 => k_is); (case k13 => k_is); (case a14 => k_is); (case l14 => k_is); (case c14 => k_is); (case k14 => k_is); (case a15 => k_is); (case l15 => k_is); (case c15 => k_is); (case k15 => k_is); (case a16 => k_is); (case l16 => k_is); (case c16 => k_is); (case k16 => k_is); (case a17 => k_is); (case l17 => k_is); (case c17 => k_is); (case k17 => k_is); (case a18 => k_is); (case l18 => k_is); (case c18 => k_is); (case k18 => k_is); (case a19 => k_is); (case l19 => k_is); (case c19 => k_is); (case k19 => k_is); (case a20 => k_is); (case l20 => k_is); (case c20 => k_is); (case k20 => k_is); (case a21 => k_is); (case l21 => k_is); (case c21 => k_is); (case k21 => k_is); (case a22 => k_is); (case l22 => k_is); (case c22 => k_is); (case k22 => k_is); (case a23 => k_is); (case l23 => k_is); (case c23 => k_is); (case k23 => k_is); (case a24 => k_is); (case l24 => k_is); (case c24 => k_is); (case k24 => k_is); (case a25 => k_is); (case l25 => k_is); (case c25 => k_is); (case k25 => k_is); (case a26 => k_is); (case l26 => k_is); (case c26 => k_is); (case k26 => k_is); (case a27 => k_is); (case l27 => k_is); (case c27 => k_is); (case k27 => k_is); (case a28 => k_is); (case l28 => k_is); (case c28 => k_is); (case k28 => k_is); (case a29 => k_is); (case l29 => k_is); (case c29 => k_is); (case k29 => k_is); (case z0 => k_is); (case z1 => k_is); (case z2 => k_is); (case z3 => k_is); (case z4 => k_is); (case z5 => k_is); (case z6 => k_is); (case z7 => k_is); (case z8 => k_is); (case z9 => k_is); (case z10 => k_is); (case z11 => k_is); (case z12 => k_is); (case z13 => k_is); (case z14 => k_is); (case dlg0 => k_is); (case dlg1 => k_is); (case dlg2 => k_is)
