import PyProof.Rows.All
import Wide.All
import OpenK.AllK
import Wide.FinOn
import HandS.Conv
import HandS.Deep
import HandS.EndBits
import HandS.Evl
import HandS.Flow
import HandS.ForMost
import HandS.Gcd
import HandS.IsInst
import HandS.Style
import HandS.Text
import HandS.TupAny
import HandS.TupLen
import HandS.Walk
import HandS.Wide
import KE.SortData
import PySem.Challenge.RW_inkwright_k90_whole_squares_and_mirrors
set_option Elab.async false
set_option linter.all false
set_option maxRecDepth 100000
set_option maxHeartbeats 4000000
/-! The data layer, 1: values that stand for data over a part of the heap that no longer changes. -/
namespace DL
open PySem L2
abbrev D := PyData
def keyD : Key → D
  | .inl i => .int i
  | .inr s => .str s
/-- the written part, and which of its tuples may stand for data -/
structure Kx where
  K : PySem.W.Frag
  C : Addr → Prop
def TupAt (κ : Kx) (F : Hp) (a : Addr) (vs : List V) : Prop :=
  F a = some (.tup vs) ∨ (κ.C a ∧ SqT κ.K (fun _ => none) a vs)
mutual
inductive Rep (κ : Kx) (F : Hp) : V → D → Prop
  | non : Rep κ F .non .none
  | bl (b : Bool) : Rep κ F (.bl b) (.bool b)
  | int (i : Int) : Rep κ F (.int i) (.int i)
  | str (s : Str) : Rep κ F (.str s) (.str s)
  | tup {a : Addr} {vs : List V} {xs : List D} : TupAt κ F a vs → Reps κ F vs xs → Rep κ F (.ref a) (.tuple xs)
  | lst {a : Addr} {vs : List V} {xs : List D} : Rd F a (.lst vs) → Reps κ F vs xs → Rep κ F (.ref a) (.list xs)
  | dK {a : Addr} {ps : List (Key × V)} {kvs : List (D × D)} : Rd F a (.dK ps) → RepKs κ F ps kvs → Rep κ F (.ref a) (.dict kvs)
  | dT {a : Addr} {ps : List (List Key × V)} {kvs : List (D × D)} : Rd F a (.dT ps) → RepTs κ F ps kvs → Rep κ F (.ref a) (.dict kvs)
  /-- the script: a list that is only read; a key None, which no dict has, marks it -/
  | scr {a : Addr} {vs : List V} {xs : List D} : SqL κ.K F a vs → Reps κ F vs xs → Rep κ F (.ref a) (.dict [(.none, .list xs)])
inductive Reps (κ : Kx) (F : Hp) : List V → List D → Prop
  | nil : Reps κ F [] []
  | cons {v : V} {d : D} {vs : List V} {ds : List D} : Rep κ F v d → Reps κ F vs ds → Reps κ F (v :: vs) (d :: ds)
inductive RepKs (κ : Kx) (F : Hp) : List (Key × V) → List (D × D) → Prop
  | nil : RepKs κ F [] []
  | cons {k : Key} {v : V} {d : D} {vs : List (Key × V)} {ds : List (D × D)} : Rep κ F v d → RepKs κ F vs ds → RepKs κ F ((k, v) :: vs) ((keyD k, d) :: ds)
inductive RepTs (κ : Kx) (F : Hp) : List (List Key × V) → List (D × D) → Prop
  | nil : RepTs κ F [] []
  | cons {k : List Key} {v : V} {d : D} {vs : List (List Key × V)} {ds : List (D × D)} : Rep κ F v d → RepTs κ F vs ds → RepTs κ F ((k, v) :: vs) ((.tuple (k.map keyD), d) :: ds)
end
/-- F lies within H; what may change may be locked there -/
def Sub (F H : Hp) : Prop := ∀ a u, F a = some u → H a = some u ∨ (Mut (some u) ∧ ∃ od, H a = some (.frz od u))
theorem Sub.refl (F : Hp) : Sub F F := fun _ _ h => .inl h
theorem Sub.rd {F H : Hp} (h : Sub F H) {a : Addr} {u : HO} (r : Rd F a u) : Rd H a u := by
  rcases r with r | ⟨o, r⟩
  · rcases h a u r with q | ⟨_, od, q⟩
    · exact .inl q
    · exact .inr ⟨od, q⟩
  · rcases h a _ r with q | ⟨m, od, q⟩
    · exact .inr ⟨o, q⟩
    · exact False.elim m
theorem Sub.tup {F H : Hp} (h : Sub F H) {a : Addr} {vs : List V} (r : F a = some (.tup vs)) : H a = some (.tup vs) := by
  rcases h a _ r with q | ⟨m, od, q⟩
  · exact q
  · exact False.elim m
theorem Sub.frz {F H : Hp} (h : Sub F H) {a : Addr} {o : Obj} {u : HO} (r : F a = some (.frz o u)) : H a = some (.frz o u) := by
  rcases h a _ r with q | ⟨m, od, q⟩
  · exact q
  · exact False.elim m
theorem Sub.tupAt {κ : Kx} {F H : Hp} (h : Sub F H) {a : Addr} {vs : List V} (r : TupAt κ F a vs) : TupAt κ H a vs := by
  rcases r with r | r
  · exact .inl (h.tup r)
  · exact .inr r
theorem Sub.sqL {K : PySem.W.Frag} {F H : Hp} (h : Sub F H) {a : Addr} {vs : List V} (r : SqL K F a vs) : SqL K H a vs := by
  rcases r with r | r
  · exact .inl (h.rd r)
  · exact .inr r
theorem Sub.of_eq {F H : Hp} (h : ∀ a u, F a = some u → H a = some u) : Sub F H := fun a u e => .inl (h a u e)
theorem Sub.ne_none {F H : Hp} (h : Sub F H) {a : Addr} (r : F a ≠ none) : H a ≠ none := by
  cases e : F a with
  | none => exact absurd e r
  | some u =>
    rcases h a u e with q | ⟨_, od, q⟩ <;> rw [q] <;> simp
theorem Sub.left {F F' H : Hp} (h : Sub F' H) (e : ∀ a u, F a = some u → F' a = some u) : Sub F H := fun a u q => h a u (e a u q)
theorem TupAt.sqT {κ : Kx} {F : Hp} {a : Addr} {vs : List V} (h : TupAt κ F a vs) : SqT κ.K F a vs := by
  rcases h with h | ⟨_, h⟩
  · exact .inl (.inl h)
  · rcases h with h | h
    · rcases h with h | ⟨o, h⟩ <;> cases h
    · exact .inr h
mutual
theorem Rep.mono {κ : Kx} {F H : Hp} (h : Sub F H) : ∀ {v : V} {d : D}, Rep κ F v d → Rep κ H v d
  | _, _, .non => .non
  | _, _, .bl b => .bl b
  | _, _, .int i => .int i
  | _, _, .str s => .str s
  | _, _, .tup r q => .tup (h.tupAt r) (Reps.mono h q)
  | _, _, .lst r q => .lst (h.rd r) (Reps.mono h q)
  | _, _, .dK r q => .dK (h.rd r) (RepKs.mono h q)
  | _, _, .dT r q => .dT (h.rd r) (RepTs.mono h q)
  | _, _, .scr r q => .scr (h.sqL r) (Reps.mono h q)
theorem Reps.mono {κ : Kx} {F H : Hp} (h : Sub F H) : ∀ {vs : List V} {ds : List D}, Reps κ F vs ds → Reps κ H vs ds
  | _, _, .nil => .nil
  | _, _, .cons r q => .cons (Rep.mono h r) (Reps.mono h q)
theorem RepKs.mono {κ : Kx} {F H : Hp} (h : Sub F H) : ∀ {vs : List (Key × V)} {ds : List (D × D)}, RepKs κ F vs ds → RepKs κ H vs ds
  | _, _, .nil => .nil
  | _, _, .cons r q => .cons (Rep.mono h r) (RepKs.mono h q)
theorem RepTs.mono {κ : Kx} {F H : Hp} (h : Sub F H) : ∀ {vs : List (List Key × V)} {ds : List (D × D)}, RepTs κ F vs ds → RepTs κ H vs ds
  | _, _, .nil => .nil
  | _, _, .cons r q => .cons (Rep.mono h r) (RepTs.mono h q)
end
/-! ### lists of representations -/
section
variable {κ : Kx} {F : Hp}
theorem Reps.length : ∀ {vs : List V} {ds : List D}, Reps κ F vs ds → vs.length = ds.length
  | _, _, .nil => rfl
  | _, _, .cons _ q => by rw [List.length_cons, List.length_cons, q.length]
theorem Reps.get : ∀ {vs : List V} {ds : List D} {i : Nat} {d : D}, Reps κ F vs ds → ds[i]? = some d → ∃ v, vs[i]? = some v ∧ Rep κ F v d
  | _, _, _, _, .nil, e => by simp at e
  | _, _, 0, _, .cons r _, e => by simp at e; subst e; exact ⟨_, rfl, r⟩
  | _, _, i + 1, d, .cons _ q, e => by
    obtain ⟨v, h1, h2⟩ := Reps.get (i := i) (d := d) q (by simpa using e)
    exact ⟨v, by simpa using h1, h2⟩
theorem Reps.getV : ∀ {vs : List V} {ds : List D} {i : Nat} {v : V}, Reps κ F vs ds → vs[i]? = some v → ∃ d, ds[i]? = some d ∧ Rep κ F v d
  | _, _, _, _, .nil, e => by simp at e
  | _, _, 0, _, .cons r _, e => by simp at e; subst e; exact ⟨_, rfl, r⟩
  | _, _, i + 1, v, .cons _ q, e => by
    obtain ⟨d, h1, h2⟩ := Reps.getV (i := i) (v := v) q (by simpa using e)
    exact ⟨d, by simpa using h1, h2⟩
theorem Reps.append : ∀ {vs ws : List V} {ds es : List D}, Reps κ F vs ds → Reps κ F ws es → Reps κ F (vs ++ ws) (ds ++ es)
  | _, _, _, _, .nil, q => q
  | _, _, _, _, .cons r p, q => .cons r (p.append q)
theorem Reps.take : ∀ {vs : List V} {ds : List D} (n : Nat), Reps κ F vs ds → Reps κ F (vs.take n) (ds.take n)
  | _, _, 0, _ => .nil
  | _, _, _ + 1, .nil => .nil
  | _, _, n + 1, .cons r q => .cons r (q.take n)
theorem Reps.drop : ∀ {vs : List V} {ds : List D} (n : Nat), Reps κ F vs ds → Reps κ F (vs.drop n) (ds.drop n)
  | _, _, 0, q => q
  | _, _, _ + 1, .nil => .nil
  | _, _, n + 1, .cons _ q => q.drop n
theorem Reps.reverse {vs : List V} {ds : List D} (q : Reps κ F vs ds) : Reps κ F vs.reverse ds.reverse := by
  induction vs generalizing ds with
  | nil => cases q; exact .nil
  | cons v vs ih =>
    cases q with
    | cons r q => rw [List.reverse_cons, List.reverse_cons]; exact (ih q).append (.cons r .nil)
theorem Reps.set : ∀ {vs : List V} {ds : List D} {v : V} {d : D} (i : Nat), Reps κ F vs ds → Rep κ F v d → Reps κ F (vs.set i v) (ds.set i d)
  | _, _, _, _, _, .nil, _ => .nil
  | _, _, _, _, 0, .cons _ q, r => .cons r q
  | _, _, _, _, i + 1, .cons p q, r => .cons p (q.set i r)
theorem Reps.eraseIdx : ∀ {vs : List V} {ds : List D} (i : Nat), Reps κ F vs ds → Reps κ F (vs.eraseIdx i) (ds.eraseIdx i)
  | _, _, _, .nil => .nil
  | _, _, 0, .cons _ q => q
  | _, _, i + 1, .cons p q => .cons p (q.eraseIdx i)
theorem Reps.dropLast {vs : List V} {ds : List D} (q : Reps κ F vs ds) : Reps κ F vs.dropLast ds.dropLast := by
  rw [List.dropLast_eq_take, List.dropLast_eq_take, q.length]; exact q.take _
theorem Reps.insertIdx : ∀ {vs : List V} {ds : List D} {v : V} {d : D} (i : Nat), Reps κ F vs ds → Rep κ F v d → Reps κ F (vs.insertIdx i v) (ds.insertIdx i d)
  | _, _, _, _, 0, q, r => .cons r q
  | _, _, _, _, _ + 1, .nil, _ => .nil
  | _, _, _, _, i + 1, .cons p q, r => .cons p (q.insertIdx i r)
theorem Reps.nil_iff {vs : List V} {ds : List D} (q : Reps κ F vs ds) : vs = [] ↔ ds = [] := by cases q <;> simp
theorem Reps.isEmpty {vs : List V} {ds : List D} (q : Reps κ F vs ds) : vs.isEmpty = ds.isEmpty := by cases q <;> rfl
theorem Reps.of_get : ∀ {vs : List V} {ds : List D}, vs.length = ds.length → (∀ (i : Nat) (v : V) (d : D), vs[i]? = some v → ds[i]? = some d → Rep κ F v d) → Reps κ F vs ds
  | [], [], _, _ => .nil
  | [], _ :: _, h, _ => by cases h
  | _ :: _, [], h, _ => by cases h
  | v :: vs, d :: ds, h, g => .cons (g 0 v d rfl rfl) (Reps.of_get (by simpa using h) fun i v d e1 e2 => g (i + 1) v d (by simpa using e1) (by simpa using e2))
theorem Reps.one {v : V} {d : D} (r : Rep κ F v d) : Reps κ F [v] [d] := .cons r .nil
theorem Reps.two {v w : V} {d e : D} (r : Rep κ F v d) (q : Rep κ F w e) : Reps κ F [v, w] [d, e] := .cons r (.cons q .nil)
theorem Reps.flatten_rep {vs : List V} {ds : List D} (q : Reps κ F vs ds) : ∀ n : Nat, Reps κ F (List.replicate n vs).flatten (List.replicate n ds).flatten
  | 0 => .nil
  | n + 1 => by rw [List.replicate_succ, List.replicate_succ, List.flatten_cons, List.flatten_cons]; exact q.append (q.flatten_rep n)
theorem Rep.isInt {v : V} {i : Int} (r : Rep κ F v (.int i)) : v = .int i := by cases r; rfl
theorem Rep.isBool {v : V} {b : Bool} (r : Rep κ F v (.bool b)) : v = .bl b := by cases r; rfl
theorem Rep.isStr {v : V} {s : Str} (r : Rep κ F v (.str s)) : v = .str s := by cases r; rfl
theorem Rep.isNone {v : V} (r : Rep κ F v .none) : v = .non := by cases r; rfl
theorem Rep.isTup {v : V} {xs : List D} (r : Rep κ F v (.tuple xs)) : ∃ a vs, v = .ref a ∧ TupAt κ F a vs ∧ Reps κ F vs xs := by
  cases r with
  | tup h q => exact ⟨_, _, rfl, h, q⟩
theorem Rep.isLst {v : V} {xs : List D} (r : Rep κ F v (.list xs)) : ∃ a vs, v = .ref a ∧ Rd F a (.lst vs) ∧ Reps κ F vs xs := by
  cases r with
  | lst h q => exact ⟨_, _, rfl, h, q⟩
/-- what stands at a dict -/
def DicAt (κ : Kx) (F : Hp) (o : HO) (kvs : List (D × D)) : Prop := (∃ ps, o = .dK ps ∧ RepKs κ F ps kvs) ∨ ∃ ps, o = .dT ps ∧ RepTs κ F ps kvs
theorem DicAt.mono {H : Hp} {o : HO} {kvs : List (D × D)} (h : Sub F H) (d : DicAt κ F o kvs) : DicAt κ H o kvs := by
  rcases d with ⟨ps, e, q⟩ | ⟨ps, e, q⟩
  · exact .inl ⟨ps, e, q.mono h⟩
  · exact .inr ⟨ps, e, q.mono h⟩
theorem DicAt.mut {o : HO} {kvs : List (D × D)} (d : DicAt κ F o kvs) : Mut (some o) := by
  rcases d with ⟨ps, rfl, q⟩ | ⟨ps, rfl, q⟩ <;> trivial
/-- the script as data -/
def ScrAt (κ : Kx) (H F : Hp) (v : V) (kvs : List (D × D)) : Prop := ∃ a vs xs, v = .ref a ∧ kvs = [(.none, .list xs)] ∧ SqL κ.K H a vs ∧ Reps κ F vs xs
theorem Rep.isDic {v : V} {kvs : List (D × D)} (r : Rep κ F v (.dict kvs)) : (∃ a o, v = .ref a ∧ Rd F a o ∧ DicAt κ F o kvs) ∨ ScrAt κ F F v kvs := by
  cases r with
  | dK h q => exact .inl ⟨_, _, rfl, h, .inl ⟨_, rfl, q⟩⟩
  | dT h q => exact .inl ⟨_, _, rfl, h, .inr ⟨_, rfl, q⟩⟩
  | scr h q => exact .inr ⟨_, _, _, rfl, rfl, h, q⟩
theorem DicAt.noScr {o : HO} {x : D} (d : DicAt κ F o [(.none, x)]) : False := by
  rcases d with ⟨ps, _, q⟩ | ⟨ps, _, q⟩
  · have : ∃ k : Key, keyD k = PyData.none := by
      generalize hz : [(PyData.none, x)] = z at q
      cases q with
      | nil => cases hz
      | cons r q => exact ⟨_, (congrArg Prod.fst (List.cons.inj hz).1).symm⟩
    obtain ⟨k, hk⟩ := this
    cases k <;> cases hk
  · generalize hz : [(PyData.none, x)] = z at q
    cases q with
    | nil => cases hz
    | cons r q => have := congrArg Prod.fst (List.cons.inj hz).1; cases this
theorem Rep.ofDic {a : Addr} {o : HO} {kvs : List (D × D)} (h : Rd F a o) (d : DicAt κ F o kvs) : Rep κ F (.ref a) (.dict kvs) := by
  rcases d with ⟨ps, rfl, q⟩ | ⟨ps, rfl, q⟩
  · exact .dK h q
  · exact .dT h q
end
/-! ### slots -/
inductive Kd where | ro | rw | own
  deriving DecidableEq
/-- what a slot holds: data; a list, a dict of its own (own), handed in (rw), handed in or locked to be read (ro) -/
inductive S where
  | d (x : D)
  | l (k : Kd) (xs : List D)
  | m (k : Kd) (kvs : List (D × D))
abbrev Env := List (Option S)
/-- is it an object of its own, of this kind -/
def S.is (k : Kd) : S → Prop
  | .d _ => False
  | .l k' _ => k' = k
  | .m k' _ => k' = k
def S.obj : S → Bool
  | .d _ => false
  | _ => true
def ObjAt (k : Kd) (H : Hp) (a : Addr) (o : HO) : Prop :=
  match k with
  | .ro => Rd H a o
  | _ => H a = some o
theorem ObjAt.rd {k : Kd} {H : Hp} {a : Addr} {o : HO} (h : ObjAt k H a o) : Rd H a o := by cases k <;> first | exact h | exact .inl h
def SlotAt (κ : Kx) (σ : St) (H F : Hp) (a : Addr) (i : Nat) : S → Prop
  | .d x => ∃ v, σ[i]? = some (some v) ∧ Rep κ F v x
  | .l k xs => σ[i]? = some (some (.ref a)) ∧ F a = none ∧ ∃ vs, ObjAt k H a (.lst vs) ∧ Reps κ F vs xs
  | .m k kvs => σ[i]? = some (some (.ref a)) ∧ F a = none ∧ ∃ o, ObjAt k H a o ∧ DicAt κ F o kvs
structure Sim (κ : Kx) (env : Env) (σ : St) (H F : Hp) (ad : Nat → Addr) : Prop where
  len : env.length = σ.length
  sub : Sub F H
  slot : ∀ i s, env[i]? = some (some s) → SlotAt κ σ H F (ad i) i s
  inj : ∀ i j s t, env[i]? = some (some s) → env[j]? = some (some t) → s.obj = true → t.obj = true → ad i = ad j → i = j
/-- a is the address of a slot's object of this kind -/
def At (k : Kd) (env : Env) (ad : Nat → Addr) (a : Addr) : Prop := ∃ i s, env[i]? = some (some s) ∧ s.is k ∧ ad i = a
/-- the shape: kind, list or dict -/
def S.shape : S → Option (Kd × Bool)
  | .d _ => none
  | .l k _ => some (k, true)
  | .m k _ => some (k, false)
structure Go (env : Env) (H F : Hp) (ad : Nat → Addr) (env' : Env) (H' F' : Hp) (ad' : Nat → Addr) : Prop where
  keep : ∀ a o, H a = some o → ¬ At .rw env ad a → ¬ At .own env ad a → H' a = some o
  pres : ∀ a, H a ≠ none → H' a ≠ none
  mono : ∀ a u, F a = some u → F' a = some u
  new : ∀ a, F' a ≠ none → F a ≠ none ∨ H a = none ∨ At .own env ad a ∨ ∃ vs, H a = some (.tup vs)
  tupb : ∀ a vs, H' a = some (.tup vs) → H a = some (.tup vs) ∨ H a = none
  own : ∀ a, At .own env' ad' a → At .own env ad a ∨ H a = none
  brw : ∀ i s, env'[i]? = some (some s) → s.is .rw ∨ s.is .ro → ∃ s0, env[i]? = some (some s0) ∧ s0.shape = s.shape ∧ ad' i = ad i ∧ (s.is .ro → s0 = s)
section
variable {env env1 env2 : Env} {H H1 H2 F F1 F2 : Hp} {ad ad1 ad2 : Nat → Addr}
theorem Go.refl : Go env H F ad env H F ad :=
  ⟨fun _ _ h _ _ => h, fun _ h => h, fun _ _ h => h, fun _ h => .inl h, fun _ _ h => .inl h, fun _ h => .inl h, fun i s h _ => ⟨s, h, rfl, rfl, fun _ => rfl⟩⟩
theorem S.shape_rw {s s0 : S} (h : s0.shape = s.shape) (k : Kd) : s0.is k ↔ s.is k := by
  cases s <;> cases s0 <;> simp_all [S.shape, S.is]
theorem Go.trans (g : Go env H F ad env1 H1 F1 ad1) (g' : Go env1 H1 F1 ad1 env2 H2 F2 ad2) : Go env H F ad env2 H2 F2 ad2 := by
  have rw' : ∀ a, At .rw env1 ad1 a → At .rw env ad a := fun a ⟨i, s, h1, h2, h3⟩ => by
    obtain ⟨s0, q1, q2, q3, _⟩ := g.brw i s h1 (.inl h2)
    exact ⟨i, s0, q1, (S.shape_rw q2 .rw).mpr h2, q3 ▸ h3⟩
  have back : ∀ a, H1 a = none → H a = none := fun a q => by
    cases e : H a with
    | none => rfl
    | some o => exact absurd q (g.pres a (by rw [e]; simp))
  refine ⟨fun a o h n1 n2 => ?_, fun a h => g'.pres a (g.pres a h), fun a u h => g'.mono a u (g.mono a u h), fun a h => ?_, fun a vs h => ?_, fun a h => ?_, fun i s h hk => ?_⟩
  · refine g'.keep a o (g.keep a o h n1 n2) (fun q => n1 (rw' a q)) fun q => ?_
    rcases g.own a q with q | q
    · exact n2 q
    · rw [h] at q; cases q
  · rcases g'.new a h with h | h | h | ⟨vs, h⟩
    · exact g.new a h
    · exact .inr (.inl (back a h))
    · rcases g.own a h with q | q
      · exact .inr (.inr (.inl q))
      · exact .inr (.inl q)
    · rcases g.tupb a vs h with h | h
      · exact .inr (.inr (.inr ⟨vs, h⟩))
      · exact .inr (.inl h)
  · rcases g'.tupb a vs h with h | h
    · exact g.tupb a vs h
    · exact .inr (back a h)
  · rcases g'.own a h with h | h
    · exact g.own a h
    · refine .inr ?_
      cases e : H a with
      | none => rfl
      | some o => exact absurd h (g.pres a (by rw [e]; simp))
  · obtain ⟨s1, q1, q2, q3, q4⟩ := g'.brw i s h hk
    obtain ⟨s0, p1, p2, p3, p4⟩ := g.brw i s1 q1 (hk.imp (S.shape_rw q2 _).mpr (S.shape_rw q2 _).mpr)
    refine ⟨s0, p1, p2.trans q2, q3.trans p3, fun r => ?_⟩
    have e1 := q4 r
    subst e1
    exact p4 r
end
end DL
/-! The data layer, 2: readings over data; expressions. -/
namespace DL
open PySem L2
/-! ### tops of objects, extensions -/
/-- v stands for d over H, what is within it over F -/
def RepP (κ : Kx) (H F : Hp) (v : V) : D → Prop
  | .list xs => ∃ a vs, v = .ref a ∧ Rd H a (.lst vs) ∧ Reps κ F vs xs
  | .tuple xs => ∃ a vs, v = .ref a ∧ TupAt κ H a vs ∧ Reps κ F vs xs
  | .dict kvs => (∃ a o, v = .ref a ∧ Rd H a o ∧ DicAt κ F o kvs) ∨ ScrAt κ H F v kvs
  | d => Rep κ F v d
theorem Rep.top {κ : Kx} {H F : Hp} {v : V} {d : D} (h : Sub F H) (r : Rep κ F v d) : RepP κ H F v d := by
  cases d with
  | list xs => obtain ⟨a, vs, e, h1, h2⟩ := r.isLst; exact ⟨a, vs, e, h.rd h1, h2⟩
  | tuple xs => obtain ⟨a, vs, e, h1, h2⟩ := r.isTup; exact ⟨a, vs, e, h.tupAt h1, h2⟩
  | dict kvs =>
    rcases r.isDic with ⟨a, o, e, h1, h2⟩ | ⟨a, vs, xs, e, e2, h1, h2⟩
    · exact .inl ⟨a, o, e, h.rd h1, h2⟩
    · exact .inr ⟨a, vs, xs, e, e2, h.sqL h1, h2⟩
  | _ => exact r
theorem RepP.rep {κ : Kx} {H F : Hp} {v : V} {d : D} (h : Sub F H) (r : RepP κ H F v d) : Rep κ H v d := by
  cases d with
  | list xs => obtain ⟨a, vs, rfl, h1, h2⟩ := r; exact .lst h1 (h2.mono h)
  | tuple xs => obtain ⟨a, vs, rfl, h1, h2⟩ := r; exact .tup h1 (h2.mono h)
  | dict kvs =>
    rcases r with ⟨a, o, rfl, h1, h2⟩ | ⟨a, vs, xs, rfl, rfl, h1, h2⟩
    · exact .ofDic h1 (h2.mono h)
    · exact .scr h1 (h2.mono h)
  | none => exact Rep.mono h r
  | bool b => exact Rep.mono h r
  | int i => exact Rep.mono h r
  | str i => exact Rep.mono h r
/-- only new objects have come -/
structure Ext (H F H' F' : Hp) : Prop where
  keep : ∀ a o, H a = some o → H' a = some o
  mono : ∀ a u, F a = some u → F' a = some u
  new : ∀ a, F' a ≠ none → F a ≠ none ∨ H a = none ∨ ∃ vs, H a = some (.tup vs)
  tupb : ∀ a vs, H' a = some (.tup vs) → H a = some (.tup vs) ∨ H a = none
  sub : Sub F' H'
theorem Ext.refl {H F : Hp} (h : Sub F H) : Ext H F H F := ⟨fun _ _ h => h, fun _ _ h => h, fun _ h => .inl h, fun _ _ h => .inl h, h⟩
theorem Ext.trans {H F H1 F1 H2 F2 : Hp} (a : Ext H F H1 F1) (b : Ext H1 F1 H2 F2) : Ext H F H2 F2 := by
  have back : ∀ a, H1 a = none → H a = none := fun x q => by
    cases e : H x with
    | none => rfl
    | some o => rw [a.keep x o e] at q; cases q
  refine ⟨fun x o h => b.keep x o (a.keep x o h), fun x o h => b.mono x o (a.mono x o h), fun x h => ?_, fun x vs h => ?_, b.sub⟩
  · rcases b.new x h with h | h | ⟨vs, h⟩
    · exact a.new x h
    · exact .inr (.inl (back x h))
    · rcases a.tupb x vs h with h | h
      · exact .inr (.inr ⟨vs, h⟩)
      · exact .inr (.inl h)
  · rcases b.tupb x vs h with h | h
    · exact a.tupb x vs h
    · exact .inr (back x h)
theorem upd_eq {H : Hp} {a b : Addr} {o : HO} : upd H a o b = if b = a then some o else H b := rfl
/-- a new object, not data yet -/
theorem Ext.laid {H F : Hp} {p : Addr} {o : HO} (h : Sub F H) (hp : H p = none) : Ext H F (upd H p o) F ∧ F p = none := by
  have fp : F p = none := by
    cases e : F p with
    | none => rfl
    | some u => rcases h p u e with q | ⟨_, od, q⟩ <;> rw [hp] at q <;> cases q
  have ne : ∀ a o', H a = some o' → a ≠ p := fun a o' e z => by rw [z, hp] at e; cases e
  refine ⟨⟨fun a o' e => by rw [upd_ne (ne a o' e)]; exact e, fun _ _ e => e, fun _ e => .inl e, fun a vs e => ?_, fun a u e => ?_⟩, fp⟩
  · by_cases z : a = p
    · subst z; exact .inr hp
    · rw [upd_ne z] at e; exact .inl e
  · rcases h a u e with q | ⟨m, od, q⟩
    · exact .inl (by rw [upd_ne (ne a _ q)]; exact q)
    · exact .inr ⟨m, od, by rw [upd_ne (ne a _ q)]; exact q⟩
/-- a new object becomes data -/
theorem Ext.data {H F H' F' : Hp} {p : Addr} {o : HO} (x : Ext H F H' F') (hp : H p = none) (hf : F' p = none) (h' : H' p = some o) : Ext H F H' (upd F' p o) := by
  refine ⟨x.keep, fun a u e => ?_, fun a e => ?_, x.tupb, fun a u e => ?_⟩
  · have e' := x.mono a u e
    by_cases z : a = p
    · subst z; rw [hf] at e'; cases e'
    · rw [upd_ne z]; exact e'
  · by_cases z : a = p
    · subst z; exact .inr (.inl hp)
    · rw [upd_ne z] at e; exact x.new a e
  · by_cases z : a = p
    · subst z; rw [upd_same] at e; cases e; exact .inl h'
    · rw [upd_ne z] at e; exact x.sub a u e
theorem sub_upd {F : Hp} {p : Addr} {o : HO} (hf : F p = none) : Sub F (upd F p o) := .of_eq fun a u e => by
  by_cases z : a = p
  · subst z; rw [hf] at e; cases e
  · rw [upd_ne z]; exact e
section
variable {κ : Kx} {env : Env} {σ : St} {H F H' F' : Hp} {ad : Nat → Addr}
theorem ObjAt.ext {k : Kd} {a : Addr} {o : HO} (h : ObjAt k H a o) (keep : ∀ a o, H a = some o → H' a = some o) : ObjAt k H' a o := by
  cases k with
  | ro =>
    rcases h with h | ⟨od, h⟩
    · exact .inl (keep _ _ h)
    · exact .inr ⟨od, keep _ _ h⟩
  | rw => exact keep _ _ h
  | own => exact keep _ _ h
theorem S.obj_is {s : S} (h : s.obj = true) : ∃ k, s.is k := by
  cases s with
  | d x => cases h
  | l k xs => exact ⟨k, rfl⟩
  | m k xs => exact ⟨k, rfl⟩
/-- the object of a slot, in H, not in F -/
theorem Sim.objAt (I : Sim κ env σ H F ad) {i : Nat} {s : S} (h : env[i]? = some (some s)) (ho : s.obj = true) : F (ad i) = none ∧ ∃ o, Rd H (ad i) o ∧ ∀ vs, o ≠ .tup vs := by
  have q := I.slot i s h
  cases s with
  | d x => cases ho
  | l k xs =>
    obtain ⟨_, hf, vs, hv, _⟩ := q
    exact ⟨hf, _, hv.rd, fun _ e => by cases e⟩
  | m k xs =>
    obtain ⟨_, hf, o, hv, hd⟩ := q
    refine ⟨hf, _, hv.rd, fun vs e => ?_⟩
    rcases hd with ⟨ps, rfl, _⟩ | ⟨ps, rfl, _⟩ <;> cases e
theorem Sim.ext (I : Sim κ env σ H F ad) (x : Ext H F H' F') : Sim κ env σ H' F' ad := by
  refine ⟨I.len, x.sub, fun i s h => ?_, I.inj⟩
  have fr : s.obj = true → F' (ad i) = none := fun ho => by
    obtain ⟨hf, o, hr, ht⟩ := I.objAt h ho
    cases e : F' (ad i) with
    | none => rfl
    | some u =>
      rcases x.new (ad i) (by rw [e]; simp) with q | q | ⟨vs, q⟩
      · exact absurd hf q
      · rcases hr with r | ⟨od, r⟩ <;> rw [q] at r <;> cases r
      · rcases hr with r | ⟨od, r⟩ <;> rw [q] at r <;> cases r
        exact absurd rfl (ht vs)
  have q := I.slot i s h
  have sF : Sub F F' := .of_eq x.mono
  cases s with
  | d z =>
    obtain ⟨v, e, r⟩ := q
    exact ⟨v, e, r.mono sF⟩
  | l k xs =>
    obtain ⟨e, _, vs, hv, r⟩ := q
    exact ⟨e, fr rfl, vs, hv.ext x.keep, r.mono sF⟩
  | m k xs =>
    obtain ⟨e, _, o, hv, r⟩ := q
    exact ⟨e, fr rfl, o, hv.ext x.keep, r.mono sF⟩
theorem Go.ext (x : Ext H F H' F') : Go env H F ad env H' F' ad :=
  ⟨fun a o h _ _ => x.keep a o h, fun a h => by
    cases e : H a with
    | none => exact absurd e h
    | some o => rw [x.keep a o e]; simp, x.mono, fun a h => by
    rcases x.new a h with h | h | h
    · exact .inl h
    · exact .inr (.inl h)
    · exact .inr (.inr (.inr h)), x.tupb, fun _ h => .inl h, fun i s h _ => ⟨s, h, rfl, rfl, fun _ => rfl⟩⟩
end
/-! ### expressions -/
abbrev E := Env → Option (D × Env)
def tE (κ : Kx) (m : E) : TE := fun σ H Q => ∃ env F ad d env', Sim κ env σ H F ad ∧ m env = some (d, env') ∧
  ∀ v H' F' ad', Sim κ env' σ H' F' ad' → Go env H F ad env' H' F' ad' → Rep κ F' v d → Q v H'
def TopAt (κ : Kx) (H F : Hp) (a : Addr) : D → Prop
  | .list xs => ∃ vs, H a = some (.lst vs) ∧ Reps κ F vs xs
  | .dict kvs => ∃ o, H a = some o ∧ DicAt κ F o kvs
  | _ => False
/-- .. a new list, a new dict, held by nobody yet -/
def tO (κ : Kx) (m : E) : TE := fun σ H Q => ∃ env F ad d env', Sim κ env σ H F ad ∧ m env = some (d, env') ∧
  ∀ a H' F' ad', Sim κ env' σ H' F' ad' → Go env H F ad env' H' F' ad' → H a = none → F' a = none → (∀ k, ¬ At k env' ad' a) → TopAt κ H' F' a d → Q (.ref a) H'
theorem pe_of {X : Cx} {e : Expr} {t t' : TE} (h : PE X e t) (w : ∀ σ H Q, t' σ H Q → t σ H Q) : PE X e t' := ⟨fun pins s σ H Q I q => h.run pins s σ H Q I (w σ H Q q)⟩
theorem pt_of {X : Cx} {e : Expr} {t t' : TT} (h : PT X e t) (w : ∀ σ H Q, t' σ H Q → t σ H Q) : PT X e t' := ⟨fun pins s σ H Q I q => h.run pins s σ H Q I (w σ H Q q)⟩
theorem pw_of {X : Cx} {e : Expr} {t t' : TT} (h : PW X e t) (w : ∀ σ H Q, t' σ H Q → t σ H Q) : PW X e t' := ⟨fun wh pins s σ H Q I q => h.run wh pins s σ H Q I (w σ H Q q)⟩
theorem pa_of {X : Cx} {e : List Expr} {t t' : TA} (h : PA X e t) (w : ∀ σ H Q, t' σ H Q → t σ H Q) : PA X e t' := ⟨fun pos pins s σ H Q I q => h.run pos pins s σ H Q I (w σ H Q q)⟩
theorem ps_of {X : Cx} {e : Stmt} {t t' : TS} (h : PS X e t) (w : ∀ D σ H, t' D σ H → t D σ H) : PS X e t' := ⟨fun pins s σ H D I q => h.run pins s σ H D I (w D σ H q)⟩
theorem pss_of {X : Cx} {e : List Stmt} {t t' : TS} (h : PSs X e t) (w : ∀ D σ H, t' D σ H → t D σ H) : PSs X e t' := ⟨fun pins s σ H D I q => h.run pins s σ H D I (w D σ H q)⟩
variable {κ : Kx} {X : Cx} {e : Expr} {σ : St} {H : Hp} {Q : VK}
/-- a new object that becomes data -/
theorem tE_of_tO {m : E} (h : tE κ m σ H Q) : tO κ m σ H Q := by
  obtain ⟨env, F, ad, d, env', I, hm, k⟩ := h
  refine ⟨env, F, ad, d, env', I, hm, fun a H' F' ad' I' g ha hf hn ht => ?_⟩
  have main : ∀ o, H' a = some o → (∀ vs, o ≠ .tup vs) → Rep κ (upd F' a o) (.ref a) d → Q (.ref a) H' := fun o ho hnt hr => by
    refine k (.ref a) H' (upd F' a o) ad' ⟨I'.len, fun b u e => ?_, fun i s h => ?_, I'.inj⟩ ⟨g.keep, g.pres, fun b u e => ?_, fun b e => ?_, g.tupb, g.own, g.brw⟩ hr
    · by_cases z : b = a
      · subst z; rw [upd_same] at e; cases e; exact .inl ho
      · rw [upd_ne z] at e; exact I'.sub b u e
    · have q := I'.slot i s h
      have ne : s.obj = true → ad' i ≠ a := fun hs z => by
        obtain ⟨k, hk⟩ := S.obj_is hs
        exact hn k ⟨i, s, h, hk, z⟩
      cases s with
      | d z => obtain ⟨v, e, r⟩ := q; exact ⟨v, e, r.mono (sub_upd hf)⟩
      | l k xs => obtain ⟨e, hf', vs, hv, r⟩ := q; exact ⟨e, by rw [upd_ne (ne rfl)]; exact hf', vs, hv, r.mono (sub_upd hf)⟩
      | m k xs => obtain ⟨e, hf', o, hv, r⟩ := q; exact ⟨e, by rw [upd_ne (ne rfl)]; exact hf', o, hv, r.mono (sub_upd hf)⟩
    · have e' := g.mono b u e
      by_cases z : b = a
      · subst z; rw [hf] at e'; cases e'
      · rw [upd_ne z]; exact e'
    · by_cases z : b = a
      · subst z; exact .inr (.inl ha)
      · rw [upd_ne z] at e; exact g.new b e
  cases d with
  | list xs =>
    obtain ⟨vs, h1, h2⟩ := ht
    exact main _ h1 (fun _ e => by cases e) (.lst (.of upd_same) (h2.mono (sub_upd hf)))
  | dict kvs =>
    obtain ⟨o, h1, h2⟩ := ht
    refine main _ h1 (fun vs e => ?_) (.ofDic (.of upd_same) (h2.mono (sub_upd hf)))
    rcases h2 with ⟨ps, rfl, _⟩ | ⟨ps, rfl, _⟩ <;> cases e
  | _ => exact False.elim ht
/-- constants -/
def eK (d : D) : E := fun env => some (d, env)
theorem ed_const {v : V} {d : D} (h : PE X e (tC v)) (r : ∀ F, Rep κ F v d) : PE X e (tE κ (eK d)) := by
  refine pe_of h fun σ H Q q => ?_
  obtain ⟨env, F, ad, d', env', I, hm, k⟩ := q
  cases hm
  exact k v H F ad I Go.refl (r F)
/-- what a slot stands for -/
def S.data : S → D
  | .d x => x
  | .l _ xs => .list xs
  | .m _ kvs => .dict kvs
def peek (env : Env) (i : Nat) : Option D := (env[i]?.bind id).map S.data
theorem peek_some {env : Env} {i : Nat} {d : D} (h : peek env i = some d) : ∃ s, env[i]? = some (some s) ∧ s.data = d := by
  unfold peek at h
  cases e : env[i]? with
  | none => rw [e] at h; cases h
  | some o =>
    cases o with
    | none => rw [e] at h; cases h
    | some s => rw [e] at h; exact ⟨s, rfl, Option.some.inj h⟩
theorem Sim.peek {env : Env} {F : Hp} {ad : Nat → Addr} (I : Sim κ env σ H F ad) {i : Nat} {d : D} (h : peek env i = some d) : ∃ v, σ[i]? = some (some v) ∧ RepP κ H F v d := by
  obtain ⟨s, e, rfl⟩ := peek_some h
  have q := I.slot i s e
  cases s with
  | d z => obtain ⟨v, e, r⟩ := q; exact ⟨v, e, r.top I.sub⟩
  | l k xs => obtain ⟨e, hf, vs, hv, r⟩ := q; exact ⟨_, e, _, vs, rfl, hv.rd, r⟩
  | m k xs => obtain ⟨e, hf, o, hv, r⟩ := q; exact ⟨_, e, .inl ⟨_, o, rfl, hv.rd, r⟩⟩
/-- a name read as data: its own object is own no more -/
def eV (i : Nat) : E := fun env => match env[i]? with
  | some (some (.d x)) => some (x, env)
  | some (some (.l .own xs)) => some (.list xs, env.set i (some (.d (.list xs))))
  | some (some (.m .own kvs)) => some (.dict kvs, env.set i (some (.d (.dict kvs))))
  | _ => none
theorem getElem?_set' {α : Type} (l : List α) (i j : Nat) (x : α) : (l.set i x)[j]? = if i = j then (if i < l.length then some x else none) else l[j]? := List.getElem?_set
/-- an own object becomes data -/
theorem Sim.freeze {env : Env} {F : Hp} {ad : Nat → Addr} (I : Sim κ env σ H F ad) {i : Nat} {s : S} (h : env[i]? = some (some s)) (ho : s.is .own) :
    ∃ F', Sim κ (env.set i (some (.d s.data))) σ H F' ad ∧ Go env H F ad (env.set i (some (.d s.data))) H F' ad ∧ σ[i]? = some (some (.ref (ad i))) ∧ Rep κ F' (.ref (ad i)) s.data := by
  have hob : s.obj = true := by cases s <;> first | rfl | exact False.elim ho
  have main : ∀ o, H (ad i) = some o → F (ad i) = none → σ[i]? = some (some (.ref (ad i))) → (∀ F', F' (ad i) = some o → Sub F F' → Rep κ F' (.ref (ad i)) s.data) →
      ∃ F', Sim κ (env.set i (some (.d s.data))) σ H F' ad ∧ Go env H F ad (env.set i (some (.d s.data))) H F' ad ∧ σ[i]? = some (some (.ref (ad i))) ∧ Rep κ F' (.ref (ad i)) s.data := fun o hH hF hσ hr => by
    have sF : Sub F (upd F (ad i) o) := sub_upd hF
    have rr := hr (upd F (ad i) o) upd_same sF
    refine ⟨upd F (ad i) o, ⟨by rw [List.length_set]; exact I.len, fun a u e => ?_, fun j t e => ?_, fun j k t t' e1 e2 o1 o2 q => ?_⟩, ⟨fun _ _ e _ _ => e, fun _ e => e, fun a u e => ?_, fun a e => ?_, fun _ _ e => .inl e, fun a q => ?_, fun j t e hk => ?_⟩, hσ, rr⟩
    · by_cases z : a = ad i
      · subst z; rw [upd_same] at e; cases e; exact .inl hH
      · rw [upd_ne z] at e; exact I.sub a u e
    · rw [getElem?_set'] at e
      by_cases z : i = j
      · subst z
        rw [if_pos rfl] at e
        split at e <;> cases e
        exact ⟨_, hσ, rr⟩
      · rw [if_neg z] at e
        have q := I.slot j t e
        cases t with
        | d y => obtain ⟨v, e, r⟩ := q; exact ⟨v, e, r.mono sF⟩
        | l k xs =>
          obtain ⟨e', hf, vs, hv, r⟩ := q
          exact ⟨e', by rw [upd_ne fun q => z (I.inj j i _ _ e h rfl hob q).symm]; exact hf, vs, hv, r.mono sF⟩
        | m k xs =>
          obtain ⟨e', hf, o', hv, r⟩ := q
          exact ⟨e', by rw [upd_ne fun q => z (I.inj j i _ _ e h rfl hob q).symm]; exact hf, o', hv, r.mono sF⟩
    · rw [getElem?_set'] at e1 e2
      have n1 : i ≠ j := fun z => by
        subst z; rw [if_pos rfl] at e1
        split at e1 <;> cases e1
        cases o1
      have n2 : i ≠ k := fun z => by
        subst z; rw [if_pos rfl] at e2
        split at e2 <;> cases e2
        cases o2
      rw [if_neg n1] at e1
      rw [if_neg n2] at e2
      exact I.inj j k t t' e1 e2 o1 o2 q
    · by_cases z : a = ad i
      · subst z; rw [hF] at e; cases e
      · rw [upd_ne z]; exact e
    · by_cases z : a = ad i
      · subst z; exact .inr (.inr (.inl ⟨i, s, h, ho, rfl⟩))
      · rw [upd_ne z] at e; exact .inl e
    · obtain ⟨j, t, e, hk, ea⟩ := q
      rw [getElem?_set'] at e
      by_cases z : i = j
      · subst z; rw [if_pos rfl] at e
        split at e <;> cases e
        exact False.elim hk
      · rw [if_neg z] at e; exact .inl ⟨j, t, e, hk, ea⟩
    · rw [getElem?_set'] at e
      by_cases z : i = j
      · subst z; rw [if_pos rfl] at e
        split at e <;> cases e
        rcases hk with hk | hk <;> exact False.elim hk
      · rw [if_neg z] at e; exact ⟨t, e, rfl, rfl, fun _ => rfl⟩
  have q := I.slot i s h
  cases s with
  | d x => exact False.elim ho
  | l k xs =>
    obtain rfl : k = .own := ho
    obtain ⟨e, hf, vs, hv, r⟩ := q
    exact main _ hv hf e fun F' e' sF => .lst (.of e') (r.mono sF)
  | m k xs =>
    obtain rfl : k = .own := ho
    obtain ⟨e, hf, o, hv, r⟩ := q
    exact main _ hv hf e fun F' e' sF => .ofDic (.of e') (r.mono sF)
theorem ed_var {i : Nat} (h : PE X e (tVar i)) : PE X e (tE κ (eV i)) := by
  refine pe_of h fun σ H Q q => ?_
  obtain ⟨env, F, ad, d, env', I, hm, k⟩ := q
  unfold eV at hm
  split at hm
  · rename_i x hx
    cases hm
    obtain ⟨v, e, r⟩ := I.slot i _ hx
    exact ⟨v, e, k v H F ad I Go.refl r⟩
  · rename_i xs hx
    cases hm
    obtain ⟨F', I', g, e, r⟩ := I.freeze hx rfl
    exact ⟨_, e, k _ H F' ad I' g r⟩
  · rename_i xs hx
    cases hm
    obtain ⟨F', I', g, e, r⟩ := I.freeze hx rfl
    exact ⟨_, e, k _ H F' ad I' g r⟩
  · cases hm
/-! ### operands -/
/-- an operand: an expression, or a name that is looked at alone -/
inductive Opd where
  | e (m : E)
  | p (i : Nat)
/-- what an operand came to -/
inductive Itm where
  | d (x : D)
  | i (i : Nat)
def runOpd : Opd → Env → Option (Itm × Env)
  | .e m, env => (m env).map fun r => (.d r.1, r.2)
  | .p i, env => (peek env i).map fun _ => (.i i, env)
def runOpds : List Opd → Env → Option (List Itm × Env)
  | [], env => some ([], env)
  | o :: r, env => (runOpd o env).bind fun a => (runOpds r a.2).map fun b => (a.1 :: b.1, b.2)
def Itm.get (env : Env) : Itm → Option D
  | .d x => some x
  | .i j => peek env j
def getAll (env : Env) : List Itm → Option (List D)
  | [] => some []
  | t :: r => (t.get env).bind fun d => (getAll env r).map fun ds => d :: ds
def ItmOk (κ : Kx) (σ : L2.St) (F : Hp) (v : V) : Itm → Prop
  | .d x => Rep κ F v x
  | .i j => σ[j]? = some (some v)
theorem ItmOk.mono {F F' : Hp} {v : V} {t : Itm} (h : Sub F F') (r : ItmOk κ σ F v t) : ItmOk κ σ F' v t := by
  cases t with
  | d x => exact Rep.mono h r
  | i j => exact r
theorem Go.sub {env env' : Env} {H H' F F' : Hp} {ad ad' : Nat → Addr} (g : Go env H F ad env' H' F' ad') : Sub F F' := .of_eq g.mono
theorem ItmOk.top {env : Env} {F : Hp} {ad : Nat → Addr} {v : V} {t : Itm} {x : D} (I : Sim κ env σ H F ad) (r : ItmOk κ σ F v t) (h : t.get env = some x) : RepP κ H F v x := by
  cases t with
  | d y =>
    obtain rfl : y = x := Option.some.inj h
    exact Rep.top I.sub r
  | i j =>
    obtain ⟨w, e, q⟩ := I.peek h
    have z : some (some v) = some (some w) := Eq.trans (Eq.symm r) e
    cases z
    exact q
def tOpd (κ : Kx) (o : Opd) : TE := fun σ H Q => ∃ env F ad t env', Sim κ env σ H F ad ∧ runOpd o env = some (t, env') ∧
  ∀ v H' F' ad', Sim κ env' σ H' F' ad' → Go env H F ad env' H' F' ad' → ItmOk κ σ F' v t → Q v H'
theorem od_e {m : E} (h : PE X e (tE κ m)) : PE X e (tOpd κ (.e m)) := by
  refine pe_of h fun σ H Q q => ?_
  obtain ⟨env, F, ad, t, env', I, hm, k⟩ := q
  cases e : m env with
  | none => simp only [runOpd, e] at hm; cases hm
  | some r =>
    simp only [runOpd, e] at hm
    cases hm
    exact ⟨env, F, ad, r.1, r.2, I, e, fun v H' F' ad' I' g r => k v H' F' ad' I' g r⟩
theorem od_p {i : Nat} (h : PE X e (tVar i)) : PE X e (tOpd κ (.p i)) := by
  refine pe_of h fun σ H Q q => ?_
  obtain ⟨env, F, ad, t, env', I, hm, k⟩ := q
  cases e : peek env i with
  | none => simp only [runOpd, e] at hm; cases hm
  | some d =>
    simp only [runOpd, e] at hm
    cases hm
    obtain ⟨v, hv, _⟩ := I.peek e
    exact ⟨v, hv, k v H F ad I Go.refl hv⟩
def tOs (κ : Kx) (os : List Opd) : TA := fun σ H Q => ∃ env F ad ts env', Sim κ env σ H F ad ∧ runOpds os env = some (ts, env') ∧
  ∀ vs H' F' ad', Sim κ env' σ H' F' ad' → Go env H F ad env' H' F' ad' → Paired (ItmOk κ σ F') vs ts → Q vs H'
theorem os_nil : PA X [] (tOs κ []) := pa_of pa_nil fun σ H Q q => by
  obtain ⟨env, F, ad, ts, env', I, hm, k⟩ := q
  cases hm
  exact k [] H F ad I Go.refl .nil
theorem Paired.itm {F F' : Hp} (h : Sub F F') : ∀ {vs : List V} {ts : List Itm}, Paired (ItmOk κ σ F) vs ts → Paired (ItmOk κ σ F') vs ts
  | _, _, .nil => .nil
  | _, _, .cons r q => .cons (r.mono h) (Paired.itm h q)
theorem os_cons {es : List Expr} {o : Opd} {os : List Opd} (h1 : PE X e (tOpd κ o)) (h2 : PA X es (tOs κ os)) (hs : starEach (e :: es) X.env = (false, eval e X.env) :: starEach es X.env := by rfl) : PA X (e :: es) (tOs κ (o :: os)) := by
  refine pa_of (pa_cons h1 h2 hs) fun σ H Q q => ?_
  obtain ⟨env, F, ad, ts, env', I, hm, k⟩ := q
  cases e1 : runOpd o env with
  | none => simp only [runOpds, e1] at hm; cases hm
  | some a =>
    cases e2 : runOpds os a.2 with
    | none => simp only [runOpds, e1, Option.bind_some, e2] at hm; cases hm
    | some b =>
      simp only [runOpds, e1, Option.bind_some, e2] at hm
      cases hm
      refine ⟨env, F, ad, a.1, a.2, I, e1, fun v H1 F1 ad1 I1 g1 r1 => ⟨a.2, F1, ad1, b.1, b.2, I1, e2, fun vs H2 F2 ad2 I2 g2 r2 => ?_⟩⟩
      exact k (v :: vs) H2 F2 ad2 I2 (g1.trans g2) (.cons (r1.mono g2.sub) r2)
theorem tops {env : Env} {F : Hp} {ad : Nat → Addr} (I : Sim κ env σ H F ad) : ∀ {vs : List V} {ts : List Itm} {ds : List D}, Paired (ItmOk κ σ F) vs ts → getAll env ts = some ds → Paired (RepP κ H F) vs ds
  | _, _, ds, .nil, h => by cases h; exact .nil
  | _, _, ds, .cons (b := t) (l₂ := ts) r q, h => by
    cases e1 : t.get env with
    | none => simp only [getAll, e1] at h; cases h
    | some x =>
      cases e2 : getAll env ts with
      | none => simp only [getAll, e1, Option.bind_some, e2] at h; cases h
      | some xs =>
        simp only [getAll, e1, Option.bind_some, e2] at h
        cases h
        exact .cons (r.top I e1) (tops I q e2)
/-! ### operations -/
/-- what a pure operation on data does, by values -/
def OpN (κ : Kx) (r : List V → Hp → VK → Prop) (f : List D → Option D) : Prop := ∀ (H F : Hp) (vs : List V) (ds : List D) (d : D) (Q : VK), Sub F H → Paired (RepP κ H F) vs ds → f ds = some d →
  (∀ w H' F', Ext H F H' F' → Rep κ F' w d → Q w H') → r vs H Q
/-- .. that makes a new list or dict -/
def OpNo (κ : Kx) (r : List V → Hp → VK → Prop) (f : List D → Option D) : Prop := ∀ (H F : Hp) (vs : List V) (ds : List D) (d : D) (Q : VK), Sub F H → Paired (RepP κ H F) vs ds → f ds = some d →
  (∀ a H' F', Ext H F H' F' → H a = none → F' a = none → TopAt κ H' F' a d → Q (.ref a) H') → r vs H Q
def eOp (f : List D → Option D) (os : List Opd) : E := fun env => (runOpds os env).bind fun a => (getAll a.2 a.1).bind fun ds => (f ds).map fun d => (d, a.2)
theorem eOp_some {f : List D → Option D} {os : List Opd} {env env' : Env} {d : D} (h : eOp f os env = some (d, env')) : ∃ ts ds, runOpds os env = some (ts, env') ∧ getAll env' ts = some ds ∧ f ds = some d := by
  unfold eOp at h
  cases e1 : runOpds os env with
  | none => rw [e1] at h; cases h
  | some a =>
    rw [e1, Option.bind_some] at h
    cases e2 : getAll a.2 a.1 with
    | none => rw [e2] at h; cases h
    | some ds =>
      rw [e2, Option.bind_some] at h
      cases e3 : f ds with
      | none => rw [e3] at h; cases h
      | some d' =>
        rw [e3] at h
        cases h
        exact ⟨a.1, ds, rfl, e2, e3⟩
/-- a fresh address is nobody's -/
theorem Sim.fresh {env : Env} {F : Hp} {ad : Nat → Addr} (I : Sim κ env σ H F ad) {a : Addr} (h : H a = none) (k : Kd) : ¬ At k env ad a := fun ⟨i, s, e, hk, ea⟩ => by
  have ho : s.obj = true := by cases s <;> first | rfl | exact False.elim hk
  obtain ⟨_, o, hr, _⟩ := I.objAt e ho
  rw [ea] at hr
  rcases hr with hr | ⟨od, hr⟩ <;> rw [h] at hr <;> cases hr
theorem opN_args {r : List V → Hp → VK → Prop} {f : List D → Option D} {os : List Opd} (hr : OpN κ r f) (q : tE κ (eOp f os) σ H Q) : tOs κ os σ H fun vs H' => r vs H' Q := by
  obtain ⟨env, F, ad, d, env', I, hm, k⟩ := q
  obtain ⟨ts, ds, h1, h2, h3⟩ := eOp_some hm
  refine ⟨env, F, ad, ts, env', I, h1, fun vs H1 F1 ad1 I1 g1 r1 => ?_⟩
  exact hr H1 F1 vs ds d Q I1.sub (tops I1 r1 h2) h3 fun w H2 F2 x hw => k w H2 F2 ad1 (I1.ext x) (g1.trans (Go.ext x)) hw
theorem opNo_args {r : List V → Hp → VK → Prop} {f : List D → Option D} {os : List Opd} (hr : OpNo κ r f) (q : tO κ (eOp f os) σ H Q) : tOs κ os σ H fun vs H' => r vs H' Q := by
  obtain ⟨env, F, ad, d, env', I, hm, k⟩ := q
  obtain ⟨ts, ds, h1, h2, h3⟩ := eOp_some hm
  refine ⟨env, F, ad, ts, env', I, h1, fun vs H1 F1 ad1 I1 g1 r1 => ?_⟩
  refine hr H1 F1 vs ds d Q I1.sub (tops I1 r1 h2) h3 fun a H2 F2 x ha hf ht => ?_
  have h0 : H a = none := by
    cases e : H a with
    | none => rfl
    | some o => exact absurd ha (g1.pres a (by rw [e]; simp))
  refine k a H2 F2 ad1 (I1.ext x) (g1.trans (Go.ext x)) h0 hf (fun kd q => I1.fresh ha kd ?_) ht
  exact q
/-- a call with arguments -/
theorem ed_callN {es : List Expr} {t : TE} {r : List V → Hp → VK → Prop} {f : List D → Option D} {os : List Opd} (hr : OpN κ r f) (h : PE X e (tCB r (tOs κ os))) : PE X e (tE κ (eOp f os)) :=
  pe_of h fun _ _ _ q => opN_args hr q
theorem eo_callN {es : List Expr} {t : TE} {r : List V → Hp → VK → Prop} {f : List D → Option D} {os : List Opd} (hr : OpNo κ r f) (h : PE X e (tCB r (tOs κ os))) : PE X e (tO κ (eOp f os)) :=
  pe_of h fun _ _ _ q => opNo_args hr q
/-- two operands, one -/
def onTwo (r : R2) : List V → Hp → VK → Prop := fun vs H Q => ∀ v u, vs = [v, u] → r v u H Q
def onOne (r : V → Hp → VK → Prop) : List V → Hp → VK → Prop := fun vs H Q => ∀ v, vs = [v] → r v H Q
theorem two_args {r : R2} {o1 o2 : Opd} (q : tOs κ [o1, o2] σ H fun vs H' => onTwo r vs H' Q) : tOp r (tOpd κ o1) (tOpd κ o2) σ H Q := by
  obtain ⟨env, F, ad, ts, env', I, hm, k⟩ := q
  cases e1 : runOpd o1 env with
  | none => simp only [runOpds, e1] at hm; cases hm
  | some a =>
    cases e2 : runOpd o2 a.2 with
    | none => simp only [runOpds, e1, Option.bind_some, e2] at hm; cases hm
    | some b =>
      simp only [runOpds, e1, Option.bind_some, e2] at hm
      cases hm
      refine ⟨env, F, ad, a.1, a.2, I, e1, fun v H1 F1 ad1 I1 g1 r1 => ⟨a.2, F1, ad1, b.1, b.2, I1, e2, fun u H2 F2 ad2 I2 g2 r2 => ?_⟩⟩
      exact k [v, u] H2 F2 ad2 I2 (g1.trans g2) (.cons (r1.mono g2.sub) (.cons r2 .nil)) v u rfl
theorem one_arg {r : V → Hp → VK → Prop} {o1 : Opd} (q : tOs κ [o1] σ H fun vs H' => onOne r vs H' Q) : tUn r (tOpd κ o1) σ H Q := by
  obtain ⟨env, F, ad, ts, env', I, hm, k⟩ := q
  cases e1 : runOpd o1 env with
  | none => simp only [runOpds, e1] at hm; cases hm
  | some a =>
    simp only [runOpds, e1, Option.bind_some] at hm
    cases hm
    exact ⟨env, F, ad, a.1, a.2, I, e1, fun v H1 F1 ad1 I1 g1 r1 => k [v] H1 F1 ad1 I1 g1 (.cons r1 .nil) v rfl⟩
def f2 (f : D → D → Option D) : List D → Option D
  | [x, y] => f x y
  | _ => none
def f1 (f : D → Option D) : List D → Option D
  | [x] => f x
  | _ => none
/-- an operation on two values -/
def Op2 (κ : Kx) (r : R2) (f : D → D → Option D) : Prop := ∀ (H F : Hp) (v u : V) (x y d : D) (Q : VK), Sub F H → RepP κ H F v x → RepP κ H F u y → f x y = some d →
  (∀ w H' F', Ext H F H' F' → Rep κ F' w d → Q w H') → r v u H Q
def Op2o (κ : Kx) (r : R2) (f : D → D → Option D) : Prop := ∀ (H F : Hp) (v u : V) (x y d : D) (Q : VK), Sub F H → RepP κ H F v x → RepP κ H F u y → f x y = some d →
  (∀ a H' F', Ext H F H' F' → H a = none → F' a = none → TopAt κ H' F' a d → Q (.ref a) H') → r v u H Q
def Op1 (κ : Kx) (r : V → Hp → VK → Prop) (f : D → Option D) : Prop := ∀ (H F : Hp) (v : V) (x d : D) (Q : VK), Sub F H → RepP κ H F v x → f x = some d →
  (∀ w H' F', Ext H F H' F' → Rep κ F' w d → Q w H') → r v H Q
theorem Op2.n {r : R2} {f : D → D → Option D} (h : Op2 κ r f) : OpN κ (onTwo r) (f2 f) := fun H F vs ds d Q hs hp hf k v u e => by
  subst e
  cases hp with
  | cons r1 q =>
    cases q with
    | cons r2 q => cases q; exact h H F v u _ _ d Q hs r1 r2 hf k
theorem Op2o.n {r : R2} {f : D → D → Option D} (h : Op2o κ r f) : OpNo κ (onTwo r) (f2 f) := fun H F vs ds d Q hs hp hf k v u e => by
  subst e
  cases hp with
  | cons r1 q =>
    cases q with
    | cons r2 q => cases q; exact h H F v u _ _ d Q hs r1 r2 hf k
theorem Op1.n {r : V → Hp → VK → Prop} {f : D → Option D} (h : Op1 κ r f) : OpN κ (onOne r) (f1 f) := fun H F vs ds d Q hs hp hf k v e => by
  subst e
  cases hp with
  | cons r1 q => cases q; exact h H F v _ d Q hs r1 hf k
def eOp2 (f : D → D → Option D) (o1 o2 : Opd) : E := eOp (f2 f) [o1, o2]
def eOp1 (f : D → Option D) (o : Opd) : E := eOp (f1 f) [o]
theorem op2_args {r : R2} {f : D → D → Option D} {o1 o2 : Opd} (hr : Op2 κ r f) (q : tE κ (eOp2 f o1 o2) σ H Q) : tOp r (tOpd κ o1) (tOpd κ o2) σ H Q := two_args (opN_args hr.n q)
theorem op2o_args {r : R2} {f : D → D → Option D} {o1 o2 : Opd} (hr : Op2o κ r f) (q : tO κ (eOp2 f o1 o2) σ H Q) : tOp r (tOpd κ o1) (tOpd κ o2) σ H Q := two_args (opNo_args hr.n q)
theorem op1_args {r : V → Hp → VK → Prop} {f : D → Option D} {o : Opd} (hr : Op1 κ r f) (q : tE κ (eOp1 f o) σ H Q) : tUn r (tOpd κ o) σ H Q := one_arg (opN_args hr.n q)
variable {a b : Expr} {o1 o2 : Opd} {pos : Pos} {f : D → D → Option D} {r : R2}
theorem ed_bin {op : Operator} (ho : OpR X (binaryOp op) r) (hr : Op2 κ r f) (ha : PE X a (tOpd κ o1)) (hb : PE X b (tOpd κ o2)) : PE X (.BinOp a op b pos) (tE κ (eOp2 f o1 o2)) := pe_of (pe_op ho ha hb) fun _ _ _ q => op2_args hr q
theorem eo_bin {op : Operator} (ho : OpR X (binaryOp op) r) (hr : Op2o κ r f) (ha : PE X a (tOpd κ o1)) (hb : PE X b (tOpd κ o2)) : PE X (.BinOp a op b pos) (tO κ (eOp2 f o1 o2)) := pe_of (pe_op ho ha hb) fun _ _ _ q => op2o_args hr q
theorem ed_un {op : UnaryOp} {g : D → Option D} {r : V → Hp → VK → Prop} (ho : UnR X (unaryOp op) r) (hr : Op1 κ r g) (ha : PE X a (tOpd κ o1)) : PE X (.UnaryOp op a pos) (tE κ (eOp1 g o1)) := pe_of (pe_un ho ha) fun _ _ _ q => op1_args hr q
theorem ed_cmp {op : CmpOp} (ho : OpR X (compareOp op) r) (hr : Op2 κ r f) (ha : PE X a (tOpd κ o1)) (hb : PE X b (tOpd κ o2)) (hm : behindInMarks op b = false) : PE X (.Compare a [op] [b] pos) (tE κ (eOp2 f o1 o2)) := pe_of (pe_cmpR ho ha hb hm) fun _ _ _ q => op2_args hr q
theorem ed_ix (ho : IxR X r) (hr : Op2 κ r f) (ha : PE X a (tOpd κ o1)) (hb : PE X b (tOpd κ o2)) (hs : PlainIx b) : PE X (.Subscript a b pos) (tE κ (eOp2 f o1 o2)) := pe_of (pe_ix ho ha hb hs) fun _ _ _ q => op2_args hr q
/-! ### tests -/
abbrev T := Env → Option (Bool × Env)
def tT (κ : Kx) (m : T) : TT := fun σ H Q => ∃ env F ad b env', Sim κ env σ H F ad ∧ m env = some (b, env') ∧ ∀ H' F' ad', Sim κ env' σ H' F' ad' → Go env H F ad env' H' F' ad' → Q b H'
def tB (m : E) : T := fun env => match m env with
  | some (.bool b, env') => some (b, env')
  | _ => none
theorem tT_tB {m : E} {Q : Bool → Hp → Prop} (q : tT κ (tB m) σ H Q) : tE κ m σ H fun x H' => ∃ k, x = .bl k ∧ Q k H' := by
  obtain ⟨env, F, ad, b, env', I, hm, k⟩ := q
  unfold tB at hm
  split at hm
  · rename_i b' env1 e
    cases hm
    exact ⟨env, F, ad, _, _, I, e, fun v H' F' ad' I' g r => ⟨_, r.isBool, k H' F' ad' I' g⟩⟩
  · cases hm
theorem td_cmp {op : CmpOp} (ho : OpR X (compareOp op) r) (hr : Op2 κ r f) (ha : PE X a (tOpd κ o1)) (hb : PE X b (tOpd κ o2)) (hm : behindInMarks op b = false) : PT X (.Compare a [op] [b] pos) (tT κ (tB (eOp2 f o1 o2))) :=
  pt_of (pt_cmpR ho ha hb hm) fun _ _ _ q => op2_args hr (tT_tB q)
def truD : D → Option Bool
  | .none => some false
  | .bool b => some b
  | .int i => some (i != 0)
  | .str s => if s.length ≤ sizeLine then some ((s.length : Int) != 0) else none
  | .list xs => some (!xs.isEmpty)
  | .tuple xs => some (!xs.isEmpty)
  | .dict _ => none
def tTru (o : Opd) : T := fun env => (runOpd o env).bind fun a => (a.1.get a.2).bind fun d => (truD d).map fun b => (b, a.2)
theorem tru_top {F : Hp} {v : V} {d : D} {b : Bool} (hκ : κ.K = X.K) (h : RepP κ H F v d) (e : truD d = some b) : TruV X.K v H b := by
  cases d with
  | none => obtain rfl := Rep.isNone h; cases e; rfl
  | bool c => obtain rfl := Rep.isBool h; cases e; rfl
  | int i => obtain rfl := Rep.isInt h; cases e; rfl
  | str s =>
    obtain rfl := Rep.isStr h
    simp only [truD] at e
    by_cases z : s.length ≤ sizeLine
    · rw [if_pos z] at e; cases e; exact ⟨z, rfl⟩
    · rw [if_neg z] at e; cases e
  | list xs =>
    obtain ⟨a, vs, rfl, h1, h2⟩ := h
    cases e
    exact .inl ⟨vs, .inl h1, by rw [h2.isEmpty]⟩
  | tuple xs =>
    obtain ⟨a, vs, rfl, h1, h2⟩ := h
    cases e
    exact .inr (.inl ⟨vs, hκ ▸ h1.sqT, by rw [h2.isEmpty]⟩)
  | dict kvs => cases e
theorem td_tru (hκ : κ.K = X.K) (ha : PE X a (tOpd κ o1)) (he : ∀ whole, isTrue a X.env whole = (do let v ← whole; standAt a.pos; holding [v] (truthy v)) := by intro _; rfl) : PT X a (tT κ (tTru o1)) :=
  pt_of (pt_truth ha he) fun σ H Q q => by
    obtain ⟨env, F, ad, b, env', I, hm, k⟩ := q
    unfold tTru at hm
    cases e1 : runOpd o1 env with
    | none => rw [e1] at hm; cases hm
    | some t =>
      rw [e1, Option.bind_some] at hm
      cases e2 : t.1.get t.2 with
      | none => rw [e2] at hm; cases hm
      | some d =>
        rw [e2, Option.bind_some] at hm
        cases e3 : truD d with
        | none => rw [e3] at hm; cases hm
        | some b' =>
          rw [e3] at hm
          cases hm
          exact ⟨env, F, ad, t.1, t.2, I, e1, fun v H' F' ad' I' g r => ⟨b, tru_top hκ (r.top I' e2) e3, k H' F' ad' I' g⟩⟩
def tAndD (t u : T) : T := fun env => (t env).bind fun a => if a.1 = true then u a.2 else some (false, a.2)
def tOrD (t u : T) : T := fun env => (t env).bind fun a => if a.1 = true then some (true, a.2) else u a.2
def tNotD (t : T) : T := fun env => (t env).map fun a => (!a.1, a.2)
variable {t u : T} {rest : List Expr}
theorem tw_and1 (ha : PT X a (tT κ t)) : PW X (.BoolOp .And [a] pos) (tT κ t) := pw_and1 ha
theorem tw_or1 (ha : PT X a (tT κ t)) : PW X (.BoolOp .Or [a] pos) (tT κ t) := pw_or1 ha
theorem tw_and (ha : PT X a (tT κ t)) (hb : PW X (.BoolOp .And (b :: rest) pos) (tT κ u)) : PW X (.BoolOp .And (a :: b :: rest) pos) (tT κ (tAndD t u)) :=
  pw_of (pw_and ha hb) fun σ H Q q => by
    obtain ⟨env, F, ad, c, env', I, hm, k⟩ := q
    unfold tAndD at hm
    cases e1 : t env with
    | none => rw [e1] at hm; cases hm
    | some x =>
      obtain ⟨x, env1⟩ := x
      rw [e1, Option.bind_some] at hm
      refine ⟨env, F, ad, x, env1, I, e1, fun H' F' ad' I' g => ?_⟩
      cases x with
      | true =>
        rw [if_pos rfl]
        rw [if_pos rfl] at hm
        exact ⟨env1, F', ad', c, env', I', hm, fun H2 F2 ad2 I2 g2 => k H2 F2 ad2 I2 (g.trans g2)⟩
      | false =>
        rw [if_neg Bool.false_ne_true]
        rw [if_neg Bool.false_ne_true] at hm
        cases hm
        exact k H' F' ad' I' g
theorem tw_or (ha : PT X a (tT κ t)) (hb : PW X (.BoolOp .Or (b :: rest) pos) (tT κ u)) : PW X (.BoolOp .Or (a :: b :: rest) pos) (tT κ (tOrD t u)) :=
  pw_of (pw_or ha hb) fun σ H Q q => by
    obtain ⟨env, F, ad, c, env', I, hm, k⟩ := q
    unfold tOrD at hm
    cases e1 : t env with
    | none => rw [e1] at hm; cases hm
    | some x =>
      obtain ⟨x, env1⟩ := x
      rw [e1, Option.bind_some] at hm
      refine ⟨env, F, ad, x, env1, I, e1, fun H' F' ad' I' g => ?_⟩
      cases x with
      | false =>
        rw [if_neg Bool.false_ne_true]
        rw [if_neg Bool.false_ne_true] at hm
        exact ⟨env1, F', ad', c, env', I', hm, fun H2 F2 ad2 I2 g2 => k H2 F2 ad2 I2 (g.trans g2)⟩
      | true =>
        rw [if_pos rfl]
        rw [if_pos rfl] at hm
        cases hm
        exact k H' F' ad' I' g
theorem td_not (ha : PT X a (tT κ t)) : PT X (.UnaryOp .Not a pos) (tT κ (tNotD t)) :=
  pt_of (pt_not ha) fun σ H Q q => by
    obtain ⟨env, F, ad, c, env', I, hm, k⟩ := q
    unfold tNotD at hm
    cases e1 : t env with
    | none => rw [e1] at hm; cases hm
    | some x =>
      rw [e1] at hm
      cases hm
      exact ⟨env, F, ad, x.1, x.2, I, e1, k⟩
/-- and, or, not of bools, as values -/
def eAnd (m n : E) : E := fun env => match m env with
  | some (.bool true, env1) => n env1
  | some (.bool false, env1) => some (.bool false, env1)
  | _ => none
def eOr (m n : E) : E := fun env => match m env with
  | some (.bool true, env1) => some (.bool true, env1)
  | some (.bool false, env1) => n env1
  | _ => none
def eNot (t : T) : E := fun env => (t env).map fun a => (.bool (!a.1), a.2)
def eIf (t : T) (m n : E) : E := fun env => (t env).bind fun a => if a.1 = true then m a.2 else n a.2
variable {m n : E}
theorem ed_one {op : BoolOp} (h : PE X a (tE κ m)) : PE X (.BoolOp op [a] pos) (tE κ m) := pe_one h
theorem ed_and (ha : PE X a (tE κ m)) (hb : PE X (.BoolOp .And (b :: rest) pos) (tE κ n)) : PE X (.BoolOp .And (a :: b :: rest) pos) (tE κ (eAnd m n)) :=
  pe_of (pe_and ha hb) fun σ H Q q => by
    obtain ⟨env, F, ad, c, env', I, hm, k⟩ := q
    unfold eAnd at hm
    split at hm
    · rename_i env1 e1
      refine ⟨env, F, ad, _, env1, I, e1, fun v H' F' ad' I' g r => ⟨true, r.isBool, ?_⟩⟩
      rw [if_pos rfl]
      exact ⟨env1, F', ad', c, env', I', hm, fun v H2 F2 ad2 I2 g2 => k v H2 F2 ad2 I2 (g.trans g2)⟩
    · rename_i env1 e1
      cases hm
      refine ⟨env, F, ad, _, _, I, e1, fun v H' F' ad' I' g r => ⟨false, r.isBool, ?_⟩⟩
      rw [if_neg Bool.false_ne_true]
      exact k _ H' F' ad' I' g (.bl false)
    · cases hm
theorem ed_or (ha : PE X a (tE κ m)) (hb : PE X (.BoolOp .Or (b :: rest) pos) (tE κ n)) : PE X (.BoolOp .Or (a :: b :: rest) pos) (tE κ (eOr m n)) :=
  pe_of (pe_or ha hb) fun σ H Q q => by
    obtain ⟨env, F, ad, c, env', I, hm, k⟩ := q
    unfold eOr at hm
    split at hm
    · rename_i env1 e1
      cases hm
      refine ⟨env, F, ad, _, _, I, e1, fun v H' F' ad' I' g r => ⟨true, r.isBool, ?_⟩⟩
      rw [if_pos rfl]
      exact k _ H' F' ad' I' g (.bl true)
    · rename_i env1 e1
      refine ⟨env, F, ad, _, env1, I, e1, fun v H' F' ad' I' g r => ⟨false, r.isBool, ?_⟩⟩
      rw [if_neg Bool.false_ne_true]
      exact ⟨env1, F', ad', c, env', I', hm, fun v H2 F2 ad2 I2 g2 => k v H2 F2 ad2 I2 (g.trans g2)⟩
    · cases hm
theorem ed_ifx {c : Expr} (hc : PT X c (tT κ t)) (ha : PE X a (tE κ m)) (hb : PE X b (tE κ n)) : PE X (.IfExp c a b pos) (tE κ (eIf t m n)) :=
  pe_of (pe_ifExp hc ha hb) fun σ H Q q => by
    obtain ⟨env, F, ad, d, env', I, hm, k⟩ := q
    unfold eIf at hm
    cases e1 : t env with
    | none => rw [e1] at hm; cases hm
    | some x =>
      obtain ⟨x, env1⟩ := x
      rw [e1, Option.bind_some] at hm
      refine ⟨env, F, ad, x, env1, I, e1, fun H' F' ad' I' g => ?_⟩
      cases x with
      | true =>
        rw [if_pos rfl]
        rw [if_pos rfl] at hm
        exact ⟨env1, F', ad', d, env', I', hm, fun v H2 F2 ad2 I2 g2 => k v H2 F2 ad2 I2 (g.trans g2)⟩
      | false =>
        rw [if_neg Bool.false_ne_true]
        rw [if_neg Bool.false_ne_true] at hm
        exact ⟨env1, F', ad', d, env', I', hm, fun v H2 F2 ad2 I2 g2 => k v H2 F2 ad2 I2 (g.trans g2)⟩
theorem td_val (h : PE X a (tE κ m)) (he : ∀ whole, isTrue a X.env whole = (do let v ← whole; standAt a.pos; holding [v] (truthy v)) := by intro _; rfl) : PT X a (tT κ (tB m)) :=
  pt_of (pt_val h he) fun _ _ _ q => tT_tB q
end DL
/-! The data layer, 3: statements. -/
namespace DL
open PySem L2
inductive Out where
  | nx | rt (d : D) | bk | ct
abbrev P := Env → Option (Out × Env)
def Done (κ : Kx) (Ds : Ends) (F : Hp) (σ : L2.St) (H : Hp) : Out → Prop
  | .nx => Ds.nx σ H
  | .bk => Ds.bk σ H
  | .ct => Ds.ct σ H
  | .rt d => ∀ v, Rep κ F v d → Ds.rt v H
def tS (κ : Kx) (m : P) : TS := fun Ds σ H => ∃ env F ad o env', Sim κ env σ H F ad ∧ m env = some (o, env') ∧
  ∀ σ' H' F' ad', Sim κ env' σ' H' F' ad' → Go env H F ad env' H' F' ad' → Done κ Ds F' σ' H' o
variable {κ : Kx} {X : Cx} {e a b : Expr} {pos : Pos} {st : Stmt} {sts : List Stmt}
def pSkip : P := fun env => some (.nx, env)
def pSeq (m n : P) : P := fun env => match m env with
  | some (.nx, env1) => n env1
  | r => r
theorem sd_nil : PSs X [] (tS κ pSkip) := pss_of pss_nil fun Ds σ H q => by
  obtain ⟨env, F, ad, o, env', I, hm, k⟩ := q
  cases hm
  exact k σ H F ad I Go.refl
theorem sd_cons {m n : P} (h1 : PS X st (tS κ m)) (h2 : PSs X sts (tS κ n)) : PSs X (st :: sts) (tS κ (pSeq m n)) := pss_of (pss_cons h1 h2) fun Ds σ H q => by
  obtain ⟨env, F, ad, o, env', I, hm, k⟩ := q
  unfold pSeq at hm
  split at hm
  · rename_i env1 e1
    exact ⟨env, F, ad, .nx, env1, I, e1, fun σ1 H1 F1 ad1 I1 g1 => ⟨env1, F1, ad1, o, env', I1, hm, fun σ2 H2 F2 ad2 I2 g2 => k σ2 H2 F2 ad2 I2 (g1.trans g2)⟩⟩
  · rename_i hne
    refine ⟨env, F, ad, o, env', I, hm, fun σ1 H1 F1 ad1 I1 g1 => ?_⟩
    have q := k σ1 H1 F1 ad1 I1 g1
    cases o with
    | nx => exact absurd hm (hne env')
    | bk => exact q
    | ct => exact q
    | rt d => exact q
theorem sd_one {m : P} (h1 : PS X st (tS κ m)) : PSs X [st] (tS κ m) := pss_one h1
/-! ### names and targets -/
inductive Pat where
  | v (i : Nat)
  | t (ps : List Pat)
mutual
def bindPat : Pat → D → Env → Option Env
  | .v i, d, env => if i < env.length then some (env.set i (some (.d d))) else none
  | .t ps, .tuple ds, env => bindPats ps ds env
  | .t _, _, _ => none
def bindPats : List Pat → List D → Env → Option Env
  | [], [], env => some env
  | p :: ps, d :: ds, env => (bindPat p d env).bind fun env1 => bindPats ps ds env1
  | _, _, _ => none
end
mutual
def Pat.has : Pat → Nat → Bool
  | .v i, j => i == j
  | .t ps, j => Pat.hasL ps j
def Pat.hasL : List Pat → Nat → Bool
  | [], _ => false
  | p :: ps, j => p.has j || Pat.hasL ps j
end
/-- a name gets data -/
theorem Sim.setD {env : Env} {σ : L2.St} {H F : Hp} {ad : Nat → Addr} (I : Sim κ env σ H F ad) {i : Nat} {v : V} {d : D} (r : Rep κ F v d) (hi : i < env.length) :
    Sim κ (env.set i (some (.d d))) (σ.set i (some v)) H F ad ∧ Go env H F ad (env.set i (some (.d d))) H F ad := by
  refine ⟨⟨by rw [List.length_set, List.length_set]; exact I.len, I.sub, fun j s e => ?_, fun j k s t e1 e2 o1 o2 q => ?_⟩, ⟨fun _ _ e _ _ => e, fun _ e => e, fun _ _ e => e, fun _ e => .inl e, fun _ _ e => .inl e, fun a q => ?_, fun j s e hk => ?_⟩⟩
  · rw [getElem?_set'] at e
    by_cases z : i = j
    · subst z
      rw [if_pos rfl, if_pos hi] at e
      cases e
      exact ⟨v, by rw [List.getElem?_set_self (by rw [← I.len]; exact hi)], r⟩
    · rw [if_neg z] at e
      have q := I.slot j s e
      cases s with
      | d y => obtain ⟨w, e', r'⟩ := q; exact ⟨w, by rw [List.getElem?_set_ne z]; exact e', r'⟩
      | l k xs => obtain ⟨e', hf, vs, hv, r'⟩ := q; exact ⟨by rw [List.getElem?_set_ne z]; exact e', hf, vs, hv, r'⟩
      | m k xs => obtain ⟨e', hf, o, hv, r'⟩ := q; exact ⟨by rw [List.getElem?_set_ne z]; exact e', hf, o, hv, r'⟩
  · rw [getElem?_set'] at e1 e2
    have n1 : i ≠ j := fun z => by
      subst z; rw [if_pos rfl, if_pos hi] at e1
      cases e1
      cases o1
    have n2 : i ≠ k := fun z => by
      subst z; rw [if_pos rfl, if_pos hi] at e2
      cases e2
      cases o2
    rw [if_neg n1] at e1
    rw [if_neg n2] at e2
    exact I.inj j k s t e1 e2 o1 o2 q
  · obtain ⟨j, t, e, hk, ea⟩ := q
    rw [getElem?_set'] at e
    by_cases z : i = j
    · subst z; rw [if_pos rfl, if_pos hi] at e
      cases e
      exact False.elim hk
    · rw [if_neg z] at e; exact .inl ⟨j, t, e, hk, ea⟩
  · rw [getElem?_set'] at e
    by_cases z : i = j
    · subst z; rw [if_pos rfl, if_pos hi] at e
      cases e
      rcases hk with hk | hk <;> exact False.elim hk
    · rw [if_neg z] at e; exact ⟨s, e, rfl, rfl, fun _ => rfl⟩
def tG (κ : Kx) (p : Pat) : TG := fun v σ H Q => ∃ env F ad d env', Sim κ env σ H F ad ∧ Rep κ F v d ∧ bindPat p d env = some env' ∧ ∀ σ', (∀ j, p.has j = false → σ'[j]? = σ[j]?) → Sim κ env' σ' H F ad → Go env H F ad env' H F ad → Q σ' H
def tGs (κ : Kx) (ps : List Pat) : TGs := fun vs σ H Q => ∃ env F ad ds env', Sim κ env σ H F ad ∧ Reps κ F vs ds ∧ bindPats ps ds env = some env' ∧ ∀ σ', (∀ j, Pat.hasL ps j = false → σ'[j]? = σ[j]?) → Sim κ env' σ' H F ad → Go env H F ad env' H F ad → Q σ' H
theorem pg_of {t t' : TG} (h : PG X e t) (w : ∀ v σ H Q, t' v σ H Q → t v σ H Q) : PG X e t' := ⟨fun pins s σ H v u Q I r q => h.run pins s σ H v u Q I r (w v σ H Q q)⟩
theorem pgs_of {es : List Expr} {t t' : TGs} (h : PGs X es t) (w : ∀ v σ H Q, t' v σ H Q → t v σ H Q) : PGs X es t' := ⟨fun pins s σ H v u Q I r q => h.run pins s σ H v u Q I r (w v σ H Q q)⟩
theorem gd_name {i : Nat} (h : PG X e (gName i)) : PG X e (tG κ (.v i)) := pg_of h fun v σ H Q q => by
  obtain ⟨env, F, ad, d, env', I, r, hb, k⟩ := q
  simp only [bindPat] at hb
  split at hb
  · rename_i hi
    cases hb
    obtain ⟨I', g⟩ := I.setD r hi
    exact k _ (fun j hj => List.getElem?_set_ne (by simpa [Pat.has] using hj)) I' g
  · cases hb
theorem gds_nil : PGs X [] (tGs κ []) := pgs_of pgs_nil fun vs σ H Q q => by
  obtain ⟨env, F, ad, ds, env', I, r, hb, k⟩ := q
  cases ds with
  | nil =>
    cases r
    simp only [bindPats] at hb
    cases hb
    exact ⟨rfl, k σ (fun _ _ => rfl) I Go.refl⟩
  | cons d ds => simp only [bindPats] at hb; cases hb
theorem gds_cons {es : List Expr} {p : Pat} {ps : List Pat} (h1 : PG X e (tG κ p)) (h2 : PGs X es (tGs κ ps)) (hs : (assignEach (e :: es) X.env).map (·.2) = assign e X.env :: (assignEach es X.env).map (·.2) := by rfl) : PGs X (e :: es) (tGs κ (p :: ps)) :=
  pgs_of (pgs_cons h1 h2 hs) fun vs σ H Q q => by
    obtain ⟨env, F, ad, ds, env', I, r, hb, k⟩ := q
    cases ds with
    | nil => simp only [bindPats] at hb; cases hb
    | cons d ds =>
      cases r with
      | cons r1 r2 =>
        cases e1 : bindPat p d env with
        | none => simp only [bindPats, e1] at hb; cases hb
        | some env1 =>
          simp only [bindPats, e1, Option.bind_some] at hb
          exact ⟨_, _, rfl, env, F, ad, d, env1, I, r1, e1, fun σ1 w1 I1 g1 => ⟨env1, F, ad, ds, env', I1, r2, hb, fun σ2 w2 I2 g2 => k σ2 (fun j hj => by
            simp only [Pat.hasL, Bool.or_eq_false_iff] at hj
            rw [w2 j hj.2, w1 j hj.1]) I2 (g1.trans g2)⟩⟩
theorem bindPats_len : ∀ {ps : List Pat} {ds : List D} {env env' : Env}, bindPats ps ds env = some env' → ps.length = ds.length
  | [], [], _, _, _ => rfl
  | [], _ :: _, _, _, h => by simp only [bindPats] at h; cases h
  | _ :: _, [], _, _, h => by simp only [bindPats] at h; cases h
  | p :: ps, d :: ds, env, env', h => by
    cases e1 : bindPat p d env with
    | none => simp only [bindPats, e1] at h; cases h
    | some env1 =>
      simp only [bindPats, e1, Option.bind_some] at h
      rw [List.length_cons, List.length_cons, bindPats_len h]
theorem gd_tup {es : List Expr} {k : Nat} {ps : List Pat} (hκ : κ.K = X.K) (hc : X.calm = true) (h : PGs X es (tGs κ ps)) (hn : (assignEach es X.env).length = ps.length := by rfl) (hst : (assignEach es X.env).findIdx? (·.1) = none := by rfl) :
    PG X (.Tuple es k pos) (tG κ (.t ps)) := pg_of (pg_tup hc h hn hst) fun v σ H Q q => by
  obtain ⟨env, F, ad, d, env', I, r, hb, k⟩ := q
  cases d with
  | tuple ds =>
    obtain ⟨a, vs, rfl, h1, h2⟩ := r.isTup
    simp only [bindPat] at hb
    refine ⟨a, vs, rfl, hκ ▸ (I.sub.tupAt h1).sqT, ?_, env, F, ad, ds, env', I, h2, hb, fun σ' w => k σ' fun j hj => w j (by simpa [Pat.has] using hj)⟩
    rw [h2.length, ← bindPats_len hb]
  | _ => simp only [bindPat] at hb; cases hb
/-! ### assignments -/
def pSet (p : Pat) (m : E) : P := fun env => (m env).bind fun a => (bindPat p a.1 a.2).map fun env' => (.nx, env')
theorem asg_of {p : Pat} {m : E} {Ds : Ends} {σ : L2.St} {H : Hp} (q : tS κ (pSet p m) Ds σ H) : tAsg (tE κ m) (tG κ p) Ds σ H := by
  obtain ⟨env, F, ad, o, env', I, hm, k⟩ := q
  unfold pSet at hm
  cases e1 : m env with
  | none => rw [e1] at hm; cases hm
  | some a =>
    rw [e1, Option.bind_some] at hm
    cases e2 : bindPat p a.1 a.2 with
    | none => rw [e2] at hm; cases hm
    | some env2 =>
      rw [e2] at hm
      cases hm
      exact ⟨env, F, ad, a.1, a.2, I, e1, fun v H1 F1 ad1 I1 g1 r1 => ⟨a.2, F1, ad1, a.1, env', I1, r1, e2, fun σ2 _ I2 g2 => k σ2 H1 F1 ad1 I2 (g1.trans g2)⟩⟩
/-- a, b = e -/
theorem sd_unp {p : Pat} {m : E} {tg : Expr} (he : PE X e (tE κ m)) (hg : PG X tg (tG κ p)) (hs : swapsWithSole [tg] e pos.line X.env = pure false := by rfl) (hw : swappedStores [tg] e X.env = pure none := by rfl)
    (h1 : (assignEach [tg] X.env).map (·.2) = [assign tg X.env] := by rfl) : PS X (.Assign [tg] e pos) (tS κ (pSet p m)) := ps_of (ps_asg he hg hs hw h1) fun _ _ _ q => asg_of q
/-- x = e by the plain rule | by that of a comprehension on one line -/
theorem sd_set {i : Nat} {m : E} (h : PS X st (tAsg (tE κ m) (gName i))) : PS X st (tS κ (pSet (.v i) m)) := ps_of h fun Ds σ H q => by
  obtain ⟨env, F, ad, d, env', I, hm, k⟩ := asg_of q
  refine ⟨env, F, ad, d, env', I, hm, fun v H' F' ad' I' g r => ?_⟩
  obtain ⟨env1, F1, ad1, d1, env2, I1, r1, hb, k1⟩ := k v H' F' ad' I' g r
  simp only [bindPat] at hb
  split at hb
  · rename_i hi
    cases hb
    obtain ⟨I2, g2⟩ := I1.setD r1 hi
    exact k1 _ (fun j hj => List.getElem?_set_ne (by simpa [Pat.has] using hj)) I2 g2
  · cases hb
/-- a new list or dict of its own -/
def own : D → Option S
  | .list xs => some (.l .own xs)
  | .dict kvs => some (.m .own kvs)
  | _ => none
def pOwn (i : Nat) (m : E) : P := fun env => (m env).bind fun a => (own a.1).bind fun s => if i < a.2.length then some (.nx, a.2.set i (some s)) else none
def put (ad : Nat → Addr) (i : Nat) (a : Addr) : Nat → Addr := fun j => if j = i then a else ad j
theorem Sim.setO {env : Env} {σ : L2.St} {H F : Hp} {ad : Nat → Addr} (I : Sim κ env σ H F ad) {i : Nat} {a : Addr} {d : D} {s : S} (hi : i < env.length) (hf : F a = none) (hn : ∀ k, ¬ At k env ad a) (ht : TopAt κ H F a d) (ho : own d = some s) :
    Sim κ (env.set i (some s)) (σ.set i (some (.ref a))) H F (put ad i a) := by
  have hi' : i < σ.length := by rw [← I.len]; exact hi
  have no : ∀ j t, env[j]? = some (some t) → t.obj = true → ad j ≠ a := fun j t e o z => by
    obtain ⟨k, hk⟩ := S.obj_is o
    exact hn k ⟨j, t, e, hk, z⟩
  refine ⟨by rw [List.length_set, List.length_set]; exact I.len, I.sub, fun j t e => ?_, fun j k t t' e1 e2 o1 o2 q => ?_⟩
  · rw [getElem?_set'] at e
    by_cases z : i = j
    · subst z
      rw [if_pos rfl, if_pos hi] at e
      cases e
      have ea : put ad i a i = a := by simp [put]
      rw [ea]
      cases d with
      | list xs =>
        cases ho
        obtain ⟨vs, h1, h2⟩ := ht
        exact ⟨by rw [List.getElem?_set_self hi'], hf, vs, h1, h2⟩
      | dict kvs =>
        cases ho
        obtain ⟨o, h1, h2⟩ := ht
        exact ⟨by rw [List.getElem?_set_self hi'], hf, o, h1, h2⟩
      | _ => cases ho
    · rw [if_neg z] at e
      have q := I.slot j t e
      have ea : put ad i a j = ad j := by simp [put, Ne.symm z]
      rw [ea]
      cases t with
      | d y => obtain ⟨w, e', r'⟩ := q; exact ⟨w, by rw [List.getElem?_set_ne z]; exact e', r'⟩
      | l k xs => obtain ⟨e', hf, vs, hv, r'⟩ := q; exact ⟨by rw [List.getElem?_set_ne z]; exact e', hf, vs, hv, r'⟩
      | m k xs => obtain ⟨e', hf, o, hv, r'⟩ := q; exact ⟨by rw [List.getElem?_set_ne z]; exact e', hf, o, hv, r'⟩
  · rw [getElem?_set'] at e1 e2
    by_cases z1 : i = j
    · by_cases z2 : i = k
      · exact z1.symm.trans z2
      · subst z1
        rw [if_neg z2] at e2
        have ea : put ad i a k = ad k := by simp [put, Ne.symm z2]
        have eb : put ad i a i = a := by simp [put]
        rw [ea, eb] at q
        exact absurd q.symm (no k t' e2 o2)
    · rw [if_neg z1] at e1
      have eb : put ad i a j = ad j := by simp [put, Ne.symm z1]
      by_cases z2 : i = k
      · subst z2
        have ea : put ad i a i = a := by simp [put]
        rw [ea, eb] at q
        exact absurd q (no j t e1 o1)
      · rw [if_neg z2] at e2
        have ea : put ad i a k = ad k := by simp [put, Ne.symm z2]
        rw [ea, eb] at q
        exact I.inj j k t t' e1 e2 o1 o2 q
theorem own_is {d : D} {s : S} (h : own d = some s) : s.is .own := by
  cases d <;> simp only [own] at h <;> cases h <;> rfl
theorem sd_own {i : Nat} {m : E} (h : PS X st (tAsg (tO κ m) (gName i))) : PS X st (tS κ (pOwn i m)) := ps_of h fun Ds σ H q => by
  obtain ⟨env, F, ad, o, env', I, hm, k⟩ := q
  unfold pOwn at hm
  cases e1 : m env with
  | none => rw [e1] at hm; cases hm
  | some a =>
    rw [e1, Option.bind_some] at hm
    cases e2 : own a.1 with
    | none => rw [e2] at hm; cases hm
    | some s =>
      rw [e2, Option.bind_some] at hm
      split at hm
      · rename_i hi
        cases hm
        refine ⟨env, F, ad, a.1, a.2, I, e1, fun p H1 F1 ad1 I1 g1 hp hf hn ht => ?_⟩
        refine k _ H1 F1 (put ad1 i p) (I1.setO hi hf hn ht e2) ⟨g1.keep, g1.pres, g1.mono, g1.new, g1.tupb, fun x q => ?_, fun j t e hk => ?_⟩
        · obtain ⟨j, t, e, hk, ea⟩ := q
          rw [getElem?_set'] at e
          by_cases z : i = j
          · subst z
            have eb : put ad1 i p i = p := by simp [put]
            rw [eb] at ea
            exact .inr (ea ▸ hp)
          · rw [if_neg z] at e
            have eb : put ad1 i p j = ad1 j := by simp [put, Ne.symm z]
            rw [eb] at ea
            exact g1.own x ⟨j, t, e, hk, ea⟩
        · rw [getElem?_set'] at e
          by_cases z : i = j
          · subst z
            rw [if_pos rfl, if_pos hi] at e
            cases e
            have := own_is e2
            rcases hk with hk | hk <;> (cases s <;> simp_all [S.is])
          · rw [if_neg z] at e
            have eb : put ad1 i p j = ad1 j := by simp [put, Ne.symm z]
            rw [eb]
            exact g1.brw j t e hk
      · cases hm
/-! ### the rest of the statements -/
def pDrop (m : E) : P := fun env => (m env).map fun a => (.nx, a.2)
theorem sd_expr {m : E} (he : PE X e (tE κ m)) (hs : swapsWith e none pos.line X.env = pure false := by rfl) : PS X (.Expr e pos) (tS κ (pDrop m)) := ps_of (ps_expr he hs) fun Ds σ H q => by
  obtain ⟨env, F, ad, o, env', I, hm, k⟩ := q
  unfold pDrop at hm
  cases e1 : m env with
  | none => rw [e1] at hm; cases hm
  | some a =>
    rw [e1] at hm
    cases hm
    exact ⟨env, F, ad, a.1, a.2, I, e1, fun v H1 F1 ad1 I1 g1 r1 => k σ H1 F1 ad1 I1 g1⟩
def pRet (m : E) : P := fun env => (m env).map fun a => (.rt a.1, a.2)
theorem sd_ret {m : E} (he : PE X e (tE κ m)) : PS X (.Return (some e) pos) (tS κ (pRet m)) := ps_of (ps_ret he) fun Ds σ H q => by
  obtain ⟨env, F, ad, o, env', I, hm, k⟩ := q
  unfold pRet at hm
  cases e1 : m env with
  | none => rw [e1] at hm; cases hm
  | some a =>
    rw [e1] at hm
    cases hm
    exact ⟨env, F, ad, a.1, a.2, I, e1, fun v H1 F1 ad1 I1 g1 r1 => k σ H1 F1 ad1 I1 g1 v r1⟩
def pRetN : P := fun env => some (.rt .none, env)
theorem sd_retN : PS X (.Return none pos) (tS κ pRetN) := ps_of ps_retN fun Ds σ H q => by
  obtain ⟨env, F, ad, o, env', I, hm, k⟩ := q
  cases hm
  exact k σ H F ad I Go.refl .non .non
def pBrk : P := fun env => some (.bk, env)
def pCnt : P := fun env => some (.ct, env)
theorem sd_brk : PS X (.Break pos) (tS κ pBrk) := ps_of ps_break fun Ds σ H q => by
  obtain ⟨env, F, ad, o, env', I, hm, k⟩ := q
  cases hm
  exact k σ H F ad I Go.refl
theorem sd_cnt : PS X (.Continue pos) (tS κ pCnt) := ps_of ps_continue fun Ds σ H q => by
  obtain ⟨env, F, ad, o, env', I, hm, k⟩ := q
  cases hm
  exact k σ H F ad I Go.refl
theorem sd_pass : PS X (.Pass pos) (tS κ pSkip) := ps_of ps_pass fun Ds σ H q => by
  obtain ⟨env, F, ad, o, env', I, hm, k⟩ := q
  cases hm
  exact k σ H F ad I Go.refl
/-- code that is never come to -/
def pNever : P := fun _ => none
theorem sd_never : PS X st (tS κ pNever) := ps_of ps_never fun Ds σ H q => by
  obtain ⟨env, F, ad, o, env', I, hm, k⟩ := q
  cases hm
theorem sds_never : PSs X sts (tS κ pNever) := pss_of pss_never fun Ds σ H q => by
  obtain ⟨env, F, ad, o, env', I, hm, k⟩ := q
  cases hm
def pIf (t : T) (m n : P) : P := fun env => (t env).bind fun a => if a.1 = true then m a.2 else n a.2
theorem Done.mono {Ds : Ends} {F F' : Hp} {σ : L2.St} {H : Hp} {o : Out} (h : Done κ Ds F σ H o) : Done κ Ds F σ H o := h
theorem sd_if {c : Expr} {t : T} {as bs : List Stmt} {m n : P} (hc : PT X c (tT κ t)) (ha : PSs X as (tS κ m)) (hb : PSs X bs (tS κ n)) : PS X (.If c as bs pos) (tS κ (pIf t m n)) := ps_of (ps_if hc ha hb) fun Ds σ H q => by
  obtain ⟨env, F, ad, o, env', I, hm, k⟩ := q
  unfold pIf at hm
  cases e1 : t env with
  | none => rw [e1] at hm; cases hm
  | some x =>
    obtain ⟨x, env1⟩ := x
    rw [e1, Option.bind_some] at hm
    refine ⟨env, F, ad, x, env1, I, e1, fun H' F' ad' I' g => ?_⟩
    cases x with
    | true =>
      rw [if_pos rfl]
      rw [if_pos rfl] at hm
      exact ⟨env1, F', ad', o, env', I', hm, fun σ2 H2 F2 ad2 I2 g2 => k σ2 H2 F2 ad2 I2 (g.trans g2)⟩
    | false =>
      rw [if_neg Bool.false_ne_true]
      rw [if_neg Bool.false_ne_true] at hm
      exact ⟨env1, F', ad', o, env', I', hm, fun σ2 H2 F2 ad2 I2 g2 => k σ2 H2 F2 ad2 I2 (g.trans g2)⟩
/-- while, with at most so many turns -/
def pWhile (t : T) (m : P) : Nat → P
  | 0, _ => none
  | n + 1, env => (t env).bind fun a => if a.1 = true then (match m a.2 with
    | some (.nx, env1) => pWhile t m n env1
    | some (.ct, env1) => pWhile t m n env1
    | some (.bk, env1) => some (.nx, env1)
    | r => r) else some (.nx, a.2)
theorem sd_while {c : Expr} {t : T} {as : List Stmt} {m : P} {fuel : Nat} (hp : PassesOwn (model X.prog X.w) X.A X.env X.xe) (hc : PT X c (tT κ t)) (hb : PSs X as (tS κ m)) : PS X (.While c as [] pos) (tS κ (pWhile t m fuel)) :=
  ps_of (ps_while hp hc hb) fun Ds σ H q => by
    obtain ⟨env, F, ad, o, env', I, hm, k⟩ := q
    refine ⟨fun n σ1 H1 => ∃ env1 F1 ad1, Sim κ env1 σ1 H1 F1 ad1 ∧ Go env H F ad env1 H1 F1 ad1 ∧ pWhile t m n env1 = some (o, env'), ⟨fuel, env, F, ad, I, Go.refl, hm⟩, ?_⟩
    rintro n σ1 H1 ⟨env1, F1, ad1, I1, g1, h1⟩
    cases n with
    | zero => cases h1
    | succ n =>
      simp only [pWhile] at h1
      cases e1 : t env1 with
      | none => rw [e1] at h1; cases h1
      | some x =>
        obtain ⟨x, env2⟩ := x
        rw [e1, Option.bind_some] at h1
        refine ⟨env1, F1, ad1, x, env2, I1, e1, fun H2 F2 ad2 I2 g2 => ?_⟩
        cases x with
        | false =>
          rw [if_neg Bool.false_ne_true]
          rw [if_neg Bool.false_ne_true] at h1
          cases h1
          exact k σ1 H2 F2 ad2 I2 (g1.trans g2)
        | true =>
          rw [if_pos rfl]
          rw [if_pos rfl] at h1
          refine ⟨fun σ3 H3 => ∃ env3 F3 ad3, Sim κ env3 σ3 H3 F3 ad3 ∧ Go env H F ad env3 H3 F3 ad3 ∧ pWhile t m n env3 = some (o, env'), fun σ3 H3 w => ⟨n, Nat.lt_succ_self n, w⟩, ?_⟩
          cases e2 : m env2 with
          | none => rw [e2] at h1; cases h1
          | some y =>
            obtain ⟨o2, env3⟩ := y
            rw [e2] at h1
            refine ⟨env2, F2, ad2, o2, env3, I2, e2, fun σ3 H3 F3 ad3 I3 g3 => ?_⟩
            have g := (g1.trans g2).trans g3
            cases o2 with
            | nx => exact ⟨env3, F3, ad3, I3, g, h1⟩
            | ct => exact ⟨env3, F3, ad3, I3, g, h1⟩
            | bk =>
              cases h1
              exact k σ3 H3 F3 ad3 I3 g
            | rt d =>
              cases h1
              exact k σ3 H3 F3 ad3 I3 g
end DL
/-! The data layer, 4: what is walked; for; comprehensions. -/
namespace DL
open PySem L2
variable {κ : Kx} {X : Cx} {e a b : Expr} {pos : Pos}
/-- a heap behind the one at which a loop begins -/
def Later (env1 : Env) (H1 F1 : Hp) (ad1 : Nat → Addr) (H F : Hp) : Prop := Sub F H ∧ ∃ env ad, Go env1 H1 F1 ad1 env H F ad
theorem Later.back {env1 envc : Env} {H1 F1 H F : Hp} {ad1 adc : Nat → Addr} (l : Later envc H1 F1 adc H F) (g : Go env1 H1 F1 ad1 envc H1 F1 adc) : Later env1 H1 F1 ad1 H F := by
  obtain ⟨s, env, ad, q⟩ := l
  exact ⟨s, env, ad, g.trans q⟩
structure ItOk (κ : Kx) (J : It) (ds : List D) (C : Hp → Hp → Prop) : Prop where
  stop : ∀ H F, C H F → J.stop ds.length H
  go : ∀ i H F, i < ds.length → C H F → J.go i H
  yld : ∀ i H F x H', i < ds.length → C H F → J.yld i H x H' → ∃ F' d, ds[i]? = some d ∧ Ext H F H' F' ∧ Rep κ F' x d
abbrev I := Env → Option (List D × Env)
def tI (κ : Kx) (m : I) : TI := fun σ H R => ∃ env F ad ds env', Sim κ env σ H F ad ∧ m env = some (ds, env') ∧
  ∀ J H' F' ad', Sim κ env' σ H' F' ad' → Go env H F ad env' H' F' ad' → ItOk κ J ds (Later env' H' F' ad') → R J H'
theorem pi_of {tg : Expr} {t t' : TI} (h : PI X tg e t) (w : ∀ σ H R, t' σ H R → t σ H R) : PI X tg e t' := ⟨fun pins s σ H R I q => h.run pins s σ H R I (w σ H R q)⟩
theorem pi_or {tg : Expr} {t t' : TI} (h : PI X tg e t) (h' : PI X tg e t') : PI X tg e (fun σ H R => t σ H R ∨ t' σ H R) := ⟨fun pins s σ H R I q => by
  rcases q with q | q
  · exact h.run pins s σ H R I q
  · exact h'.run pins s σ H R I q⟩
/-! ### for -/
def forL (p : Pat) (body : P) : List D → P
  | [], env => some (.nx, env)
  | d :: ds, env => (bindPat p d env).bind fun env1 => match body env1 with
    | some (.nx, env2) => forL p body ds env2
    | some (.ct, env2) => forL p body ds env2
    | some (.bk, env2) => some (.nx, env2)
    | r => r
def pFor (it : I) (p : Pat) (body : P) : P := fun env => (it env).bind fun a => forL p body a.1 a.2
theorem drop_cons {ds : List D} {i : Nat} (h : i < ds.length) : ds.drop i = ds[i] :: ds.drop (i + 1) := List.drop_eq_getElem_cons h
theorem sd_for {tg iter : Expr} {bs : List Stmt} {it : I} {p : Pat} {m : P} (hp : PassesOwn (model X.prog X.w) X.A X.env X.xe) (hc : X.calm = true) (hi : PI X tg iter (tI κ it)) (hg : PG X tg (tG κ p)) (hb : PSs X bs (tS κ m))
    (hs : ∀ x, foldedSetIterable iter X.env x = pure x := by intro _; rfl) : PS X (.For tg iter bs [] pos) (tS κ (pFor it p m)) :=
  ps_of (ps_for hp hc hi hg hb hs) fun Ds σ H q => by
    obtain ⟨env, F, ad, o, env', I, hm, k⟩ := q
    unfold pFor at hm
    cases e1 : it env with
    | none => rw [e1] at hm; cases hm
    | some a =>
      obtain ⟨ds, env1⟩ := a
      rw [e1, Option.bind_some] at hm
      refine ⟨env, F, ad, ds, env1, I, e1, fun J H1 F1 ad1 I1 g1 ok => ?_⟩
      refine ⟨fun i n σ2 H2 => n = ds.length - i ∧ i ≤ ds.length ∧ ∃ env2 F2 ad2, Sim κ env2 σ2 H2 F2 ad2 ∧ Go env1 H1 F1 ad1 env2 H2 F2 ad2 ∧ forL p m (ds.drop i) env2 = some (o, env'), ⟨ds.length, by simp, Nat.zero_le _, env1, F1, ad1, I1, Go.refl, hm⟩, ?_⟩
      rintro i n σ2 H2 ⟨rfl, hi, env2, F2, ad2, I2, g2, h2⟩
      have lat : Later env1 H1 F1 ad1 H2 F2 := ⟨I2.sub, env2, ad2, g2⟩
      by_cases hlt : i < ds.length
      · refine .inr ⟨ok.go i H2 F2 hlt lat, fun σ5 H5 => ∃ env5 F5 ad5, Sim κ env5 σ5 H5 F5 ad5 ∧ Go env1 H1 F1 ad1 env5 H5 F5 ad5 ∧ forL p m (ds.drop (i + 1)) env5 = some (o, env'), fun σ5 H5 w => ⟨ds.length - (i + 1), by omega, rfl, hlt, w⟩, fun x H3 y => ?_⟩
        obtain ⟨F3, d, hd, xt, rx⟩ := ok.yld i H2 F2 x H3 hlt lat y
        rw [drop_cons hlt] at h2
        have ed : ds[i] = d := by rw [List.getElem?_eq_getElem hlt] at hd; exact Option.some.inj hd
        rw [ed] at h2
        simp only [forL] at h2
        cases e3 : bindPat p d env2 with
        | none => rw [e3] at h2; cases h2
        | some env3 =>
          rw [e3, Option.bind_some] at h2
          refine ⟨env2, F3, ad2, d, env3, I2.ext xt, rx, e3, fun σ3 _ I3 g3 => ?_⟩
          cases e4 : m env3 with
          | none => rw [e4] at h2; cases h2
          | some z =>
            obtain ⟨o4, env4⟩ := z
            rw [e4] at h2
            refine ⟨env3, F3, ad2, o4, env4, I3, e4, fun σ4 H4 F4 ad4 I4 g4 => ?_⟩
            have g := ((g2.trans (Go.ext xt)).trans g3).trans g4
            cases o4 with
            | nx => exact ⟨env4, F4, ad4, I4, g, h2⟩
            | ct => exact ⟨env4, F4, ad4, I4, g, h2⟩
            | bk => cases h2; exact k σ4 H4 F4 ad4 I4 (g1.trans g)
            | rt d => cases h2; exact k σ4 H4 F4 ad4 I4 (g1.trans g)
      · have ei : i = ds.length := by omega
        subst ei
        rw [List.drop_length] at h2
        simp only [forL] at h2
        cases h2
        exact .inl ⟨ok.stop H2 F2 lat, k σ2 H2 F2 ad2 I2 (g1.trans g2)⟩
/-! ### comprehensions -/
mutual
theorem bindPat_len : ∀ (p : Pat) (d : D) (env env' : Env), bindPat p d env = some env' → env'.length = env.length
  | .v i, d, env, env', h => by
    simp only [bindPat] at h
    split at h
    · cases h; rw [List.length_set]
    · cases h
  | .t ps, .tuple ds, env, env', h => by
    simp only [bindPat] at h
    exact bindPats_len' ps ds env env' h
  | .t _, .none, _, _, h => by simp only [bindPat] at h; cases h
  | .t _, .bool _, _, _, h => by simp only [bindPat] at h; cases h
  | .t _, .int _, _, _, h => by simp only [bindPat] at h; cases h
  | .t _, .str _, _, _, h => by simp only [bindPat] at h; cases h
  | .t _, .list _, _, _, h => by simp only [bindPat] at h; cases h
  | .t _, .dict _, _, _, h => by simp only [bindPat] at h; cases h
theorem bindPats_len' : ∀ (ps : List Pat) (ds : List D) (env env' : Env), bindPats ps ds env = some env' → env'.length = env.length
  | [], [], _, _, h => by simp only [bindPats] at h; cases h; rfl
  | [], _ :: _, _, _, h => by simp only [bindPats] at h; cases h
  | _ :: _, [], _, _, h => by simp only [bindPats] at h; cases h
  | p :: ps, d :: ds, env, env', h => by
    cases e1 : bindPat p d env with
    | none => simp only [bindPats, e1] at h; cases h
    | some env1 =>
      simp only [bindPats, e1, Option.bind_some] at h
      rw [bindPats_len' ps ds env1 env' h, bindPat_len p d env env1 e1]
end
/-- a heap that had nothing at p -/
theorem Go.out {env env' : Env} {H H' F F' : Hp} {ad ad' : Nat → Addr} {p : Addr} {o : HO} (g : Go env H F ad env' H' F' ad') (hp : H p = none) (ho : ∀ vs, o ≠ .tup vs) : Go env H F ad env' (upd H' p o) F' ad' := by
  have ne : ∀ a o', H a = some o' → a ≠ p := fun a o' e z => by rw [z, hp] at e; cases e
  refine ⟨fun a o' e n1 n2 => by rw [upd_ne (ne a o' e)]; exact g.keep a o' e n1 n2, fun a h => ?_, g.mono, g.new, fun a vs h => ?_, g.own, g.brw⟩
  · by_cases z : a = p
    · subst z; exact absurd hp h
    · rw [upd_ne z]; exact g.pres a h
  · by_cases z : a = p
    · subst z; rw [upd_same] at h; cases h; exact absurd rfl (ho vs)
    · rw [upd_ne z] at h; exact g.tupb a vs h
/-- an object that is nobody's and is not data stays so -/
theorem Go.other {env env' : Env} {H H' F F' : Hp} {ad ad' : Nat → Addr} {p : Addr} {vs : List V} (g : Go env H F ad env' H' F' ad') (h : H p = some (.lst vs)) (hf : F p = none) (hn : ∀ k, ¬ At k env ad p) :
    H' p = some (.lst vs) ∧ F' p = none ∧ ∀ k, ¬ At k env' ad' p := by
  refine ⟨g.keep p _ h (hn _) (hn _), ?_, fun k q => ?_⟩
  · cases e : F' p with
    | none => rfl
    | some u =>
      rcases g.new p (by rw [e]; simp) with q | q | q | ⟨ws, q⟩
      · exact absurd hf q
      · rw [h] at q; cases q
      · exact absurd q (hn _)
      · rw [h] at q; cases q
  · have br : k = .rw ∨ k = .ro → False := fun hk => by
      obtain ⟨i, s, e, hs, ea⟩ := q
      obtain ⟨s0, e0, sh, eb, _⟩ := g.brw i s e (by rcases hk with rfl | rfl; exact .inl hs; exact .inr hs)
      exact hn k ⟨i, s0, e0, (S.shape_rw sh k).mpr hs, by rw [← eb]; exact ea⟩
    cases k with
    | ro => exact br (.inr rfl)
    | rw => exact br (.inl rfl)
    | own =>
      rcases g.own p q with q | q
      · exact hn _ q
      · rw [h] at q; cases q
def clear (vs : List Nat) (env : Env) : Env := vs.foldl (fun e i => e.set i none) env
theorem clear_get (vs : List Nat) : ∀ (env : Env) (i : Nat), (clear vs env)[i]? = if i ∈ vs ∧ i < env.length then some none else env[i]? := by
  induction vs with
  | nil => intro env i; simp [clear]
  | cons v vs ih =>
    intro env i
    show (clear vs (env.set v none))[i]? = _
    rw [ih]
    by_cases h1 : i ∈ vs ∧ i < env.length
    · rw [if_pos (by rw [List.length_set]; exact h1), if_pos ⟨List.mem_cons_of_mem _ h1.1, h1.2⟩]
    · rw [if_neg (by rw [List.length_set]; exact h1), getElem?_set']
      by_cases h2 : v = i
      · subst h2
        rw [if_pos rfl]
        by_cases h3 : v < env.length
        · rw [if_pos h3, if_pos ⟨List.mem_cons_self, h3⟩]
        · rw [if_neg h3, if_neg (by simp [h3])]
          exact (List.getElem?_eq_none (by omega)).symm
      · rw [if_neg h2]
        rw [if_neg]
        rintro ⟨h3, h4⟩
        rcases List.mem_cons.mp h3 with h3 | h3
        · exact h2 h3.symm
        · exact h1 ⟨h3, h4⟩
theorem clear_length (vs : List Nat) : ∀ env : Env, (clear vs env).length = env.length := by
  induction vs with
  | nil => intro env; rfl
  | cons v vs ih => intro env; show (clear vs (env.set v none)).length = _; rw [ih, List.length_set]
def bare (vs : List Nat) (env : Env) : Bool := vs.all fun i => match env[i]? with
  | some (some _) => false
  | _ => true
theorem bare_at {vs : List Nat} {env : Env} (h : bare vs env = true) {i : Nat} (hi : i ∈ vs) {s : S} (e : env[i]? = some (some s)) : False := by
  have q := List.all_eq_true.mp h i hi
  simp only [e] at q
  cases q
theorem bare_clear (vs : List Nat) (env : Env) : bare vs (clear vs env) = true := List.all_eq_true.mpr fun i hi => by
  cases q : (clear vs env)[i]? with
  | none => rfl
  | some o =>
    cases o with
    | none => rfl
    | some s =>
      rw [clear_get] at q
      split at q
      · cases q
      · rename_i hn
        have : i < env.length := by
          cases h : decide (i < env.length) with
          | true => exact of_decide_eq_true h
          | false => rw [List.getElem?_eq_none (by have := of_decide_eq_false h; omega)] at q; cases q
        exact absurd ⟨hi, this⟩ hn
/-- slots forgotten -/
theorem Sim.clear {env : Env} {σ : L2.St} {H F : Hp} {ad : Nat → Addr} (I : Sim κ env σ H F ad) (vs : List Nat) : Sim κ (clear vs env) σ H F ad ∧ Go env H F ad (DL.clear vs env) H F ad := by
  have sub : ∀ i s, (DL.clear vs env)[i]? = some (some s) → env[i]? = some (some s) := fun i s e => by
    rw [clear_get] at e
    split at e
    · cases e
    · exact e
  exact ⟨⟨by rw [clear_length]; exact I.len, I.sub, fun i s e => I.slot i s (sub i s e), fun i j s t e1 e2 => I.inj i j s t (sub i s e1) (sub j t e2)⟩,
    ⟨fun _ _ e _ _ => e, fun _ e => e, fun _ _ e => e, fun _ e => .inl e, fun _ _ e => .inl e, fun a ⟨j, t, e, hk, ea⟩ => .inl ⟨j, t, sub j t e, hk, ea⟩, fun j t e hk => ⟨t, sub j t e, rfl, rfl, fun _ => rfl⟩⟩⟩
/-- other slots, the same where something stands -/
theorem Sim.slots {env : Env} {σ σ' : L2.St} {H F : Hp} {ad : Nat → Addr} (I : Sim κ env σ H F ad) (hl : σ'.length = σ.length) (h : ∀ (i : Nat) (s : S) (v : V), env[i]? = some (some s) → σ[i]? = some (some v) → σ'[i]? = some (some v)) : Sim κ env σ' H F ad :=
  ⟨I.len.trans hl.symm, I.sub, fun i s e => by
    have q := I.slot i s e
    cases s with
    | d y => obtain ⟨w, e', r'⟩ := q; exact ⟨w, h i _ w e e', r'⟩
    | l k xs => obtain ⟨e', hf, vs, hv, r'⟩ := q; exact ⟨h i _ _ e e', hf, vs, hv, r'⟩
    | m k xs => obtain ⟨e', hf, o, hv, r'⟩ := q; exact ⟨h i _ _ e e', hf, o, hv, r'⟩, I.inj⟩
/-- an object that is nobody's changes -/
theorem Sim.out {env : Env} {σ : L2.St} {H F : Hp} {ad : Nat → Addr} {p : Addr} {o : HO} (I : Sim κ env σ H F ad) (hf : F p = none) (hn : ∀ k, ¬ At k env ad p) : Sim κ env σ (upd H p o) F ad := by
  refine ⟨I.len, fun a u e => ?_, fun i s e => ?_, I.inj⟩
  · have ne : a ≠ p := fun z => by subst z; rw [hf] at e; cases e
    rw [upd_ne ne]
    exact I.sub a u e
  · have ne : s.obj = true → ad i ≠ p := fun ho z => by
      obtain ⟨k, hk⟩ := S.obj_is ho
      exact hn k ⟨i, s, e, hk, z⟩
    have q := I.slot i s e
    have ob : ∀ {k : Kd} {o'}, ad i ≠ p → ObjAt k H (ad i) o' → ObjAt k (upd H p o) (ad i) o' := fun {k o'} z h => by
      cases k with
      | ro => rcases h with h | ⟨od, h⟩; exact .inl (by rw [upd_ne z]; exact h); exact .inr ⟨od, by rw [upd_ne z]; exact h⟩
      | rw => show upd H p o (ad i) = _; rw [upd_ne z]; exact h
      | own => show upd H p o (ad i) = _; rw [upd_ne z]; exact h
    cases s with
    | d y => exact q
    | l k xs => obtain ⟨e', hf', vs, hv, r'⟩ := q; exact ⟨e', hf', vs, ob (ne rfl) hv, r'⟩
    | m k xs => obtain ⟨e', hf', o', hv, r'⟩ := q; exact ⟨e', hf', o', ob (ne rfl) hv, r'⟩
/-- what is built: the items' values so far, last first is not kept: in order -/
def compL (p : Pat) (vs : List Nat) (t : T) (m : E) : List D → List D → Env → Option (D × Env)
  | [], acc, env => some (.list acc, env)
  | d :: ds, acc, env => (bindPat p d env).bind fun env1 => (t env1).bind fun b =>
    if b.1 = true then (m b.2).bind fun r => if acc.length < sizeLine then compL p vs t m ds (acc ++ [r.1]) (clear vs r.2) else none
    else compL p vs t m ds acc (clear vs b.2)
def inVs (p : Pat) (vs : List Nat) (n : Nat) : Bool := (List.range n).all fun j => !p.has j || vs.contains j
/-- no slot of vs holds an object -/
def datas (vs : List Nat) (env : Env) : Bool := vs.all fun i => match env[i]? with
  | some (some (.l _ _)) => false
  | some (some (.m _ _)) => false
  | _ => true
def restore (vs : List Nat) (env0 env : Env) : Env := vs.foldl (fun e i => e.set i (env0[i]?.bind id)) env
theorem restore_get (env0 : Env) (vs : List Nat) : ∀ (env : Env) (i : Nat), (restore vs env0 env)[i]? = if i ∈ vs ∧ i < env.length then some (env0[i]?.bind id) else env[i]? := by
  induction vs with
  | nil => intro env i; simp [restore]
  | cons v vs ih =>
    intro env i
    show (restore vs env0 (env.set v (env0[v]?.bind id)))[i]? = _
    rw [ih]
    by_cases h1 : i ∈ vs ∧ i < env.length
    · rw [if_pos (by rw [List.length_set]; exact h1), if_pos ⟨List.mem_cons_of_mem _ h1.1, h1.2⟩]
    · rw [if_neg (by rw [List.length_set]; exact h1), List.getElem?_set]
      by_cases h2 : v = i
      · subst h2
        rw [if_pos rfl]
        by_cases h3 : v < env.length
        · rw [if_pos h3, if_pos ⟨List.mem_cons_self, h3⟩]
        · rw [if_neg h3, if_neg (by simp [h3])]
          exact (List.getElem?_eq_none (by omega)).symm
      · rw [if_neg h2]
        rw [if_neg]
        rintro ⟨h3, h4⟩
        rcases List.mem_cons.mp h3 with h3 | h3
        · exact h2 h3.symm
        · exact h1 ⟨h3, h4⟩
theorem restore_length (env0 : Env) (vs : List Nat) : ∀ env : Env, (restore vs env0 env).length = env.length := by
  induction vs with
  | nil => intro env; rfl
  | cons v vs ih => intro env; show (restore vs env0 (env.set v _)).length = _; rw [ih, List.length_set]
theorem Sim.restore {env0 env : Env} {σ : L2.St} {H0 F0 H F : Hp} {ad0 ad : Nat → Addr} (I : Sim κ env σ H F ad) (I0 : Sim κ env0 σ H0 F0 ad0) (sF : Sub F0 F) (vs : List Nat) (hd : datas vs env0 = true) :
    Sim κ (DL.restore vs env0 env) σ H F ad ∧ ∀ (i : Nat) (s : S), (DL.restore vs env0 env)[i]? = some (some s) → s.obj = true → env[i]? = some (some s) := by
  have cases' : ∀ (i : Nat) (s : S), (DL.restore vs env0 env)[i]? = some (some s) → (i ∈ vs ∧ env0[i]? = some (some s)) ∨ env[i]? = some (some s) := fun i s e => by
    rw [restore_get] at e
    split at e
    · rename_i h
      refine .inl ⟨h.1, ?_⟩
      cases q : env0[i]? with
      | none => rw [q] at e; cases e
      | some o => rw [q] at e; cases o with
        | none => cases e
        | some t => cases e; rfl
    · exact .inr e
  have ob : ∀ (i : Nat) (s : S), (DL.restore vs env0 env)[i]? = some (some s) → s.obj = true → env[i]? = some (some s) := fun i s e o => by
    rcases cases' i s e with ⟨h1, h2⟩ | h
    · have q := List.all_eq_true.mp hd i h1
      rw [h2] at q
      cases s with
      | d x => cases o
      | l k xs => exact absurd q Bool.false_ne_true
      | m k xs => exact absurd q Bool.false_ne_true
    · exact h
  refine ⟨⟨(restore_length env0 vs env).trans I.len, I.sub, fun i s e => ?_, fun i j s t e1 e2 o1 o2 q => I.inj i j s t (ob i s e1 o1) (ob j t e2 o2) o1 o2 q⟩, ob⟩
  cases ho : s.obj with
  | true => exact I.slot i s (ob i s e ho)
  | false =>
    cases s with
    | d x =>
      rcases cases' i _ e with ⟨h1, h2⟩ | h
      · obtain ⟨v, hv, r⟩ := I0.slot i _ h2
        exact ⟨v, hv, r.mono sF⟩
      · exact I.slot i _ h
    | l k xs => cases ho
    | m k xs => cases ho
theorem Go.restore {env1 env0 env : Env} {H1 F1 H F : Hp} {ad1 ad : Nat → Addr} {vs : List Nat} (g : Go env1 H1 F1 ad1 env H F ad) (ob : ∀ (i : Nat) (s : S), (DL.restore vs env0 env)[i]? = some (some s) → s.obj = true → env[i]? = some (some s)) : Go env1 H1 F1 ad1 (DL.restore vs env0 env) H F ad :=
  ⟨g.keep, g.pres, g.mono, g.new, g.tupb, fun a ⟨i, s, e, hk, ea⟩ => g.own a ⟨i, s, ob i s e (by cases s <;> first | rfl | exact False.elim hk), hk, ea⟩,
    fun i s e hk => g.brw i s (ob i s e (by cases s <;> first | rfl | (rcases hk with hk | hk <;> exact False.elim hk))) hk⟩
def eComp (it : I) (p : Pat) (vs : List Nat) (t : T) (m : E) : E := fun env => (it env).bind fun a => if datas vs a.2 = true ∧ inVs p vs a.2.length = true then (compL p vs t m a.1 [] (clear vs a.2)).map fun r => (r.1, restore vs a.2 r.2) else none
def tTrue : T := fun env => some (true, env)
theorem tt_nil : PTs X [] (tT κ tTrue) := ⟨fun pins s σ H Q I q => pts_nil.run pins s σ H Q I (by
  obtain ⟨env, F, ad, b, env', I, hm, k⟩ := q
  cases hm
  exact k H F ad I Go.refl)⟩
theorem tt_one {c : Expr} {t : T} (h : PT X c (tT κ t)) : PTs X [c] (tT κ t) := pts_one h
theorem wipe_same {σ σ' : L2.St} {vs : List Nat} (hl : σ'.length = σ.length) (h : ∀ j, j ∉ vs → σ'[j]? = σ[j]?) : wipe σ' vs = wipe σ vs := by
  apply List.ext_getElem?
  intro j
  by_cases hj : j ∈ vs
  · have gen : ∀ (τ : L2.St) (vs : List Nat), j ∈ vs → (wipe τ vs)[j]? = if j < τ.length then some none else none := by
      intro τ vs
      induction vs with
      | nil => intro h; cases h
      | cons v vs ih =>
        intro h
        show ((wipe τ vs).set v none)[j]? = _
        rw [List.getElem?_set]
        by_cases e : v = j
        · subst e
          rw [if_pos rfl, wipe_length]
        · rw [if_neg e]
          exact ih ((List.mem_cons.mp h).resolve_left fun z => e z.symm)
    rw [gen σ' vs hj, gen σ vs hj, hl]
  · rw [wipe_out hj, wipe_out hj, h j hj]
theorem comp_of {it : I} {p : Pat} {vs : List Nat} {t : T} {m : E} {σ : L2.St} {H : Hp} {Q : VK} (q : tO κ (eComp it p vs t m) σ H Q) : tLc (tI κ it) (tG κ p) (tT κ t) (tE κ m) vs σ H Q := by
  obtain ⟨env, F, ad, dres, env', I, hm, k⟩ := q
  unfold eComp at hm
  cases e1 : it env with
  | none => rw [e1] at hm; cases hm
  | some a =>
    obtain ⟨ds, env1⟩ := a
    rw [e1, Option.bind_some] at hm
    by_cases hb' : datas vs env1 = true ∧ inVs p vs env1.length = true
    · rw [if_pos hb'] at hm
      dsimp only at hm
      cases ec : compL p vs t m ds [] (clear vs env1) with
      | none => rw [ec] at hm; cases hm
      | some rr =>
      obtain ⟨dres', envE⟩ := rr
      rw [ec] at hm
      cases hm
      refine ⟨env, F, ad, ds, env1, I, e1, fun J H1 F1 ad1 I1' g1 ok' Dl hD => ?_⟩
      have I1 := (I1'.clear vs).1
      have g1c := (I1'.clear vs).2
      have hb : bare vs (clear vs env1) = true ∧ inVs p vs (clear vs env1).length = true := ⟨bare_clear vs env1, by rw [clear_length]; exact hb'.2⟩
      have ok : ItOk κ J ds (Later (clear vs env1) H1 F1 ad1) := ⟨fun H F l => ok'.stop H F (l.back g1c), fun i H F hi l => ok'.go i H F hi (l.back g1c), fun i H F x H' hi l y => ok'.yld i H F x H' hi (l.back g1c) y⟩
      have fin : ∀ {env2 : Env} {H2 F2 : Hp} {ad2 : Nat → Addr}, Sim κ env2 σ H2 F2 ad2 → Go (clear vs env1) H1 F1 ad1 env2 H2 F2 ad2 → Sim κ (restore vs env1 env2) σ H2 F2 ad2 ∧ Go env1 H1 F1 ad1 (restore vs env1 env2) H2 F2 ad2 ∧ ∀ kd a, At kd (restore vs env1 env2) ad2 a → At kd env2 ad2 a := fun {env2 H2 F2 ad2} I2 g2 => by
        obtain ⟨q1, q2⟩ := I2.restore I1' g2.sub vs hb'.1
        exact ⟨q1, (g1c.trans g2).restore q2, fun kd a ⟨i, s, e, hk, ea⟩ => ⟨i, s, q2 i s e (by cases s <;> first | rfl | exact False.elim hk), hk, ea⟩⟩
      obtain ⟨envc, hec⟩ : ∃ x, x = clear vs env1 := ⟨_, rfl⟩
      rw [← hec] at ec I1 g1c hb ok fin
      have hm := ec
      have lenσ := I1.len
      have wl : (wipe σ vs).length = σ.length := wipe_length σ vs
      have fD : F1 Dl = none := by
        cases e : F1 Dl with
        | none => rfl
        | some u => exact absurd hD (I1.sub.ne_none (by rw [e]; simp))
      -- what holds at a turn
      let Pv : Nat → Hp → Prop := fun i H2 => ∃ env2 F2 ad2 acc vacc, Sim κ env2 (wipe σ vs) H2 F2 ad2 ∧ Go envc H1 F1 ad1 env2 H2 F2 ad2 ∧ bare vs env2 = true ∧ env2.length = envc.length ∧ F2 Dl = none ∧ (∀ kd, ¬ At kd env2 ad2 Dl) ∧ H2 Dl = some (.lst vacc) ∧ Reps κ F2 vacc acc ∧ compL p vs t m (ds.drop i) acc env2 = some (dres', envE)
      have s0 : Sim κ envc (wipe σ vs) (upd H1 Dl (.lst [])) F1 ad1 := (I1.slots wl fun i s v e1 e2 => by
        have : i ∉ vs := fun hi => bare_at hb.1 hi e1
        rw [wipe_out this]; exact e2).ext (Ext.laid I1.sub hD).1
      refine ⟨fun i n H2 => n = ds.length - i ∧ i ≤ ds.length ∧ Pv i H2, ⟨ds.length, by simp, Nat.zero_le _, envc, F1, ad1, [], [], s0, Go.ext (Ext.laid I1.sub hD).1, hb.1, rfl, fD, fun kd => I1.fresh hD kd, upd_same, .nil, hm⟩, ?_⟩
      rintro i n H2 ⟨rfl, hi, env2, F2, ad2, acc, vacc, I2, g2, b2, l2, f2, n2, h2, r2, hc⟩
      have lat : Later envc H1 F1 ad1 H2 F2 := ⟨I2.sub, env2, ad2, g2⟩
      by_cases hlt : i < ds.length
      · refine .inr ⟨ok.go i H2 F2 hlt lat, Pv (i + 1), fun H5 w => ⟨ds.length - (i + 1), by omega, rfl, hlt, w⟩, fun x H3 y => ?_⟩
        obtain ⟨F3, d, hd, xt, rx⟩ := ok.yld i H2 F2 x H3 hlt lat y
        rw [drop_cons hlt] at hc
        have ed : ds[i] = d := by rw [List.getElem?_eq_getElem hlt] at hd; exact Option.some.inj hd
        rw [ed] at hc
        simp only [compL] at hc
        cases e3 : bindPat p d env2 with
        | none => rw [e3] at hc; cases hc
        | some env3 =>
          rw [e3, Option.bind_some] at hc
          refine ⟨env2, F3, ad2, d, env3, I2.ext xt, rx, e3, fun σ3 w3 I3 g3 => ⟨?_, ?_⟩⟩
          · have l3 : σ3.length = σ.length := by
              have q1 := I3.len
              have q2 := (I2.ext xt).len
              have q3 : env3.length = env2.length := by
                exact bindPat_len p d env2 env3 e3
              omega
            have ww : wipe (wipe σ vs) vs = wipe σ vs := wipe_same wl fun j hj => wipe_out hj
            rw [← ww]
            refine wipe_same (by rw [wl]; exact l3) fun j hj => ?_
            by_cases hjl : j < envc.length
            · refine w3 j ?_
              have q := List.all_eq_true.mp hb.2 j (List.mem_range.mpr hjl)
              cases hp : p.has j with
              | false => rfl
              | true =>
                rw [hp] at q
                simp only [Bool.not_true, Bool.false_or, List.contains_iff_mem] at q
                exact absurd q hj
            · rw [List.getElem?_eq_none (by omega), List.getElem?_eq_none (by omega)]
          · cases e4 : t env3 with
            | none => rw [e4] at hc; cases hc
            | some z =>
              obtain ⟨bz, env4⟩ := z
              rw [e4, Option.bind_some] at hc
              refine ⟨env3, F3, ad2, bz, env4, I3, e4, fun H4 F4 ad4 I4 g4 => ?_⟩
              have out : ∀ (i : Nat), i ∉ vs → i < envc.length → p.has i = false := fun i hi hl => by
                have q := List.all_eq_true.mp hb.2 i (List.mem_range.mpr hl)
                cases hp : p.has i with
                | false => rfl
                | true =>
                  rw [hp] at q
                  simp only [Bool.not_true, Bool.false_or, List.contains_iff_mem] at q
                  exact absurd q hi
              have l3 : env3.length = envc.length := by rw [bindPat_len p d env2 env3 e3]; exact l2
              -- back to the slots ahead of the turn
              have back : ∀ {env5 : Env} {H5 F5 : Hp} {ad5 : Nat → Addr}, Sim κ env5 σ3 H5 F5 ad5 → Sim κ (clear vs env5) (wipe σ vs) H5 F5 ad5 := fun {env5 H5 F5 ad5} I5 => by
                have e5 : env5.length = envc.length := by
                  have q1 := I5.len
                  have q2 := I3.len
                  omega
                refine (I5.clear vs).1.slots (by have q2 := I3.len; omega) fun i s v q1 q2 => ?_
                have hv : i ∉ vs := fun hi => bare_at (bare_clear vs env5) hi q1
                have hl : i < envc.length := by
                  rw [clear_get] at q1
                  split at q1
                  · cases q1
                  · have : i < env5.length := (List.getElem?_eq_some_iff.mp q1).1
                    omega
                rw [← w3 i (out i hv hl)]
                exact q2
              cases bz with
              | true =>
                rw [if_pos rfl] at hc
                dsimp only
                rw [if_pos rfl]
                cases e5 : m env4 with
                | none => rw [e5] at hc; cases hc
                | some r =>
                  obtain ⟨rd, env5⟩ := r
                  rw [e5, Option.bind_some] at hc
                  by_cases hz : acc.length < sizeLine
                  · rw [if_pos hz] at hc
                    refine ⟨env4, F4, ad4, rd, env5, I4, e5, fun v H5 F5 ad5 I5 g5 r5 => ?_⟩
                    have g := (((Go.ext xt).trans g3).trans g4).trans g5
                    obtain ⟨h5, f5, n5⟩ := g.other h2 f2 n2
                    have gc := (I5.clear vs).2
                    obtain ⟨h6, f6, n6⟩ := gc.other h5 f5 n5
                    refine ⟨vacc, h5, by rw [r2.length]; exact hz, clear vs env5, F5, ad5, acc ++ [rd], vacc ++ [v], (back I5).out f5 n6, ((g2.trans g).trans gc).out hD (fun _ e => by cases e), bare_clear vs env5, ?_, f5, n6, upd_same, (r2.mono g.sub).append (.one r5), hc⟩
                    rw [clear_length]
                    have q1 := I5.len
                    have q2 := I3.len
                    omega
                  · rw [if_neg hz] at hc; cases hc
              | false =>
                rw [if_neg Bool.false_ne_true] at hc
                dsimp only
                rw [if_neg Bool.false_ne_true]
                have g := ((Go.ext xt).trans g3).trans g4
                obtain ⟨h5, f5, n5⟩ := g.other h2 f2 n2
                have gc := (I4.clear vs).2
                obtain ⟨h6, f6, n6⟩ := gc.other h5 f5 n5
                refine ⟨clear vs env4, F4, ad4, acc, vacc, back I4, (g2.trans g).trans gc, bare_clear vs env4, ?_, f5, n6, h5, r2.mono g.sub, hc⟩
                rw [clear_length]
                have q1 := I4.len
                have q2 := I3.len
                omega
      · have ei : i = ds.length := by omega
        subst ei
        rw [List.drop_length] at hc
        simp only [compL] at hc
        cases hc
        refine .inl ⟨ok.stop H2 F2 lat, ?_⟩
        have I2' : Sim κ envE σ H2 F2 ad2 := I2.slots wl.symm fun i s v e1 e2 => (wipe_some e2).1
        obtain ⟨q1, q2, q3⟩ := fin I2' g2
        refine k Dl H2 F2 ad2 q1 (g1.trans q2) ?_ f2 (fun kd q => n2 kd (q3 kd _ q)) ⟨vacc, h2, r2⟩
        cases e : H Dl with
        | none => rfl
        | some o => exact absurd hD (g1.pres Dl (by rw [e]; simp))
    · rw [if_neg hb'] at hm; cases hm
theorem eo_comp {own : List (Str × Nat)} {it : I} {p : Pat} {t : T} {m : E} (h : PE X e (tLc (tI κ it) (tG κ p) (tT κ t) (tE κ m) (own.map (·.2)))) : PE X e (tO κ (eComp it p (own.map (·.2)) t m)) :=
  pe_of h fun _ _ _ q => comp_of q
theorem comp_asg {it : I} {p : Pat} {vs : List Nat} {t : T} {m : E} {i : Nat} {st : Stmt} (h : PS X st (tAsg (tLc (tI κ it) (tG κ p) (tT κ t) (tE κ m) vs) (gName i))) : PS X st (tAsg (tO κ (eComp it p vs t m)) (gName i)) :=
  ps_of h fun _ _ _ q => comp_of q
theorem asg_data {m : E} {i : Nat} {st : Stmt} (h : PS X st (tAsg (tO κ m) (gName i))) : PS X st (tAsg (tE κ m) (gName i)) := ps_of h fun _ _ _ q => tE_of_tO q
theorem ed_of {m : E} (h : PE X e (tO κ m)) : PE X e (tE κ m) := pe_of h fun _ _ _ q => tE_of_tO q
/-! ### what is walked -/
def upTo (lo : Int) : Nat → List D
  | 0 => []
  | n + 1 => .int lo :: upTo (lo + 1) n
theorem upTo_length : ∀ (n : Nat) (lo : Int), (upTo lo n).length = n
  | 0, _ => rfl
  | n + 1, lo => by show (upTo (lo + 1) n).length + 1 = _; rw [upTo_length n]
theorem upTo_get : ∀ (n : Nat) (lo : Int) (i : Nat), i < n → (upTo lo n)[i]? = some (.int (lo + i))
  | 0, _, _, h => absurd h (Nat.not_lt_zero _)
  | n + 1, lo, 0, _ => by simp [upTo]
  | n + 1, lo, i + 1, h => by
    show (upTo (lo + 1) n)[i]? = _
    rw [upTo_get n (lo + 1) i (by omega)]
    congr 2
    omega
theorem Ext.later {env : Env} {H1 F1 H F : Hp} {ad : Nat → Addr} (l : Later env H1 F1 ad H F) : Ext H F H F := Ext.refl l.1
theorem range_ok {env : Env} {H1 F1 : Hp} {ad : Nat → Addr} (lo : Int) (n : Nat) : ItOk κ (Itr lo n) (upTo lo n) (Later env H1 F1 ad) := by
  refine ⟨fun H F _ => ?_, fun i H F hi _ => ?_, fun i H F x H' hi l y => ?_⟩
  · show n ≤ _
    rw [upTo_length]
    exact Nat.le_refl _
  · rw [upTo_length] at hi
    exact hi
  · rw [upTo_length] at hi
    obtain ⟨rfl, rfl⟩ := y
    exact ⟨F, _, upTo_get n lo i hi, Ext.later l, .int _⟩
/-- what is walked, reckoned from operands -/
def iOp (g : List D → Option (List D)) (os : List Opd) : I := fun env => (runOpds os env).bind fun a => (getAll a.2 a.1).bind fun ds => (g ds).map fun r => (r, a.2)
theorem iOp_some {g : List D → Option (List D)} {os : List Opd} {env env' : Env} {rs : List D} (h : iOp g os env = some (rs, env')) : ∃ ts ds, runOpds os env = some (ts, env') ∧ getAll env' ts = some ds ∧ g ds = some rs := by
  unfold iOp at h
  cases e1 : runOpds os env with
  | none => rw [e1] at h; cases h
  | some a =>
    rw [e1, Option.bind_some] at h
    cases e2 : getAll a.2 a.1 with
    | none => rw [e2] at h; cases h
    | some ds =>
      rw [e2, Option.bind_some] at h
      cases e3 : g ds with
      | none => rw [e3] at h; cases h
      | some d' =>
        rw [e3] at h
        cases h
        exact ⟨a.1, ds, rfl, e2, e3⟩
theorem iOp_args {g : List D → Option (List D)} {os : List Opd} {σ : L2.St} {H : Hp} {R : It → Hp → Prop} (q : tI κ (iOp g os) σ H R) :
    tOs κ os σ H fun vs H1 => ∃ F1 ad1 env1 ds rs, Sim κ env1 σ H1 F1 ad1 ∧ Paired (RepP κ H1 F1) vs ds ∧ g ds = some rs ∧ ∀ J, ItOk κ J rs (Later env1 H1 F1 ad1) → R J H1 := by
  obtain ⟨env, F, ad, rs, env', I, h, k⟩ := q
  obtain ⟨ts, ds, h1, h2, h3⟩ := iOp_some h
  exact ⟨env, F, ad, ts, env', I, h1, fun vs H1 F1 ad1 I1 g1 r1 => ⟨F1, ad1, env', ds, rs, I1, tops I1 r1 h2, h3, fun J ok => k J H1 F1 ad1 I1 g1 ok⟩⟩
theorem tOs_mono {os : List Opd} {σ : L2.St} {H : Hp} {Q Q' : List V → Hp → Prop} (q : tOs κ os σ H Q) (h : ∀ vs H', Q vs H' → Q' vs H') : tOs κ os σ H Q' := by
  obtain ⟨env, F, ad, ts, env', I, h1, k⟩ := q
  exact ⟨env, F, ad, ts, env', I, h1, fun vs H1 F1 ad1 I1 g1 r1 => h _ _ (k vs H1 F1 ad1 I1 g1 r1)⟩
/-- told by natAbs: a kernel that looks into it stops at the letter -/
def small62 (i : Int) : Bool := decide (i.natAbs < 4611686018427387904)
theorem small62_of {i : Int} (h : small62 i = true) : -(2 ^ 62) ≤ i ∧ i < 2 ^ 62 := by
  have := of_decide_eq_true h
  omega
theorem small62_ok {i : Int} (h : -(2 ^ 62) < i ∧ i < 2 ^ 62) : small62 i = true := decide_eq_true (by omega)
def rng1 : List D → Option (List D)
  | [.int j] => if small62 j = true then some (upTo 0 j.toNat) else none
  | _ => none
def rng2 : List D → Option (List D)
  | [.int i, .int j] => if small62 i = true ∧ small62 j = true then some (upTo i (j - i).toNat) else none
  | _ => none
theorem Paired.one' {α β : Type} {G : α → β → Prop} {l : List α} {b : β} (h : Paired G l [b]) : ∃ a, l = [a] ∧ G a b := by
  cases h with
  | cons r q => cases q; exact ⟨_, rfl, r⟩
theorem Paired.two' {α β : Type} {G : α → β → Prop} {l : List α} {b c : β} (h : Paired G l [b, c]) : ∃ a a', l = [a, a'] ∧ G a b ∧ G a' c := by
  cases h with
  | cons r q =>
    obtain ⟨a', rfl, r'⟩ := Paired.one' q
    exact ⟨_, _, rfl, r, r'⟩
theorem Paired.three' {α β : Type} {G : α → β → Prop} {l : List α} {b c d : β} (h : Paired G l [b, c, d]) : ∃ a a' a'', l = [a, a', a''] ∧ G a b ∧ G a' c ∧ G a'' d := by
  cases h with
  | cons r q =>
    obtain ⟨a', a'', rfl, r', r''⟩ := Paired.two' q
    exact ⟨_, _, _, rfl, r, r', r''⟩
theorem it_range1 {tg : Expr} {o : Opd} {p : Pos} (hg : Gl X "range") (hm : X.mg "range" = none) (ha : PA X [a] (tOs κ [o])) (hs : starEach [a] X.env = [(false, eval a X.env)] := by rfl) : PI X tg (.Call (.Name "range" p) [a] [] pos) (tI κ (iOp rng1 [o])) :=
  pi_of (pi_range1 hg hm ha hs) fun σ H R q => tOs_mono (iOp_args q) fun vs H1 ⟨F1, ad1, env1, ds, rs, I1, hp, hr, k⟩ => by
    unfold rng1 at hr
    split at hr
    · obtain ⟨v, rfl, r⟩ := Paired.one' hp
      obtain rfl := Rep.isInt r
      split at hr
      · rename_i hb
        cases hr
        exact ⟨_, rfl, (small62_of hb).1, (small62_of hb).2, k _ (range_ok 0 _)⟩
      · cases hr
    · cases hr
theorem it_range2 {tg : Expr} {os : List Opd} {p : Pos} (hg : Gl X "range") (hm : X.mg "range" = none) (ha : PA X [a, b] (tOs κ os)) (hs : starEach [a, b] X.env = [(false, eval a X.env), (false, eval b X.env)] := by rfl) (hs2 : starEach [b] X.env = [(false, eval b X.env)] := by rfl) :
    PI X tg (.Call (.Name "range" p) [a, b] [] pos) (tI κ (iOp rng2 os)) :=
  pi_of (pi_range2 hg hm ha hs hs2) fun σ H R q => tOs_mono (iOp_args q) fun vs H1 ⟨F1, ad1, env1, ds, rs, I1, hp, hr, k⟩ => by
    unfold rng2 at hr
    split at hr
    · obtain ⟨v, w, rfl, r1, r2⟩ := Paired.two' hp
      obtain rfl := Rep.isInt r1
      obtain rfl := Rep.isInt r2
      split at hr
      · rename_i hb
        cases hr
        exact ⟨_, _, rfl, ⟨(small62_of hb.1).1, (small62_of hb.1).2, (small62_of hb.2).1, (small62_of hb.2).2⟩, k _ (range_ok _ _)⟩
      · cases hr
    · cases hr
/-! data that is walked: a list, a tuple, a text -/
def charsD (s : Str) : List D := s.cps.toList.map fun c => .str ⟨#[c]⟩
def seqD : D → Option (List D)
  | .list xs => some xs
  | .tuple xs => some xs
  | .str s => some (charsD s)
  | _ => none
def iSeq (m : E) : I := fun env => (m env).bind fun a => (seqD a.1).map fun ds => (ds, a.2)
theorem list_ok {env : Env} {H1 F1 : Hp} {ad : Nat → Addr} {p : Addr} {vs : List V} {ds : List D} (h : Rd F1 p (.lst vs)) (r : Reps κ F1 vs ds) : ItOk κ (Itl κ.K p) ds (Later env H1 F1 ad) := by
  have st : ∀ {H F}, Later env H1 F1 ad H F → SqL κ.K H p vs ∧ Sub F1 F := fun {H F} l => by
    obtain ⟨s, env2, ad2, g⟩ := l
    exact ⟨.inl (s.rd (g.sub.rd h)), g.sub⟩
  refine ⟨fun H F l => ⟨vs, (st l).1, by rw [r.length]; exact Nat.le_refl _⟩, fun i H F hi l => ?_, fun i H F x H' hi l y => ?_⟩
  · have hv : i < vs.length := by rw [r.length]; exact hi
    exact ⟨vs, vs[i], (st l).1, by simp [hv]⟩
  · obtain ⟨rfl, y⟩ := y
    have e := y vs (st l).1
    obtain ⟨d, hd, rd⟩ := r.getV e
    exact ⟨F, d, hd, Ext.later l, rd.mono (st l).2⟩
theorem tup_ok {env : Env} {H1 F1 : Hp} {ad : Nat → Addr} {p : Addr} {vs : List V} {ds : List D} (h : TupAt κ F1 p vs) (r : Reps κ F1 vs ds) : ItOk κ (Itt κ.K p) ds (Later env H1 F1 ad) := by
  have st : ∀ {H F}, Later env H1 F1 ad H F → SqT κ.K H p vs ∧ Sub F1 F := fun {H F} l => by
    obtain ⟨s, env2, ad2, g⟩ := l
    exact ⟨(s.tupAt (g.sub.tupAt h)).sqT, g.sub⟩
  refine ⟨fun H F l => ⟨vs, (st l).1, by rw [r.length]; exact Nat.le_refl _⟩, fun i H F hi l => ?_, fun i H F x H' hi l y => ?_⟩
  · have hv : i < vs.length := by rw [r.length]; exact hi
    exact ⟨vs, vs[i], (st l).1, by simp [hv]⟩
  · obtain ⟨rfl, y⟩ := y
    have e := y vs (st l).1
    obtain ⟨d, hd, rd⟩ := r.getV e
    exact ⟨F, d, hd, Ext.later l, rd.mono (st l).2⟩
theorem str_ok {env : Env} {H1 F1 : Hp} {ad : Nat → Addr} {s : Str} : ItOk κ (Its s) (charsD s) (Later env H1 F1 ad) := by
  have ln : (charsD s).length = s.cps.size := by simp [charsD]
  refine ⟨fun H F l => by show s.cps.size ≤ _; rw [ln]; exact Nat.le_refl _, fun i H F hi l => by rw [ln] at hi; exact hi, fun i H F x H' hi l y => ?_⟩
  obtain ⟨rfl, c, hc, rfl⟩ := y
  refine ⟨F, .str ⟨#[c]⟩, ?_, Ext.later l, .str _⟩
  have : s.cps.toList[i]? = some c := by rw [Array.getElem?_toList]; exact hc
  unfold charsD
  rw [List.getElem?_map, this]
  rfl
theorem it_seq {tg : Expr} {m : E} (hκ : κ.K = X.K) (h : PE X e (tE κ m)) : PI X tg e (tI κ (iSeq m)) :=
  pi_of (pi_or (pi_list h) (pi_or (pi_tup h) (pi_str h))) fun σ H R q => by
    obtain ⟨env, F, ad, rs, env', I, hm, k⟩ := q
    unfold iSeq at hm
    cases e1 : m env with
    | none => rw [e1] at hm; cases hm
    | some r =>
      obtain ⟨d, env1⟩ := r
      rw [e1, Option.bind_some] at hm
      cases d with
      | list xs =>
        cases hm
        refine .inl ⟨env, F, ad, _, _, I, e1, fun v H1 F1 ad1 I1 g1 r1 => ?_⟩
        obtain ⟨p, vs, rfl, h1, h2⟩ := r1.isLst
        exact ⟨p, rfl, ⟨vs, .inl (I1.sub.rd h1)⟩, hκ ▸ k _ H1 F1 ad1 I1 g1 (list_ok h1 h2)⟩
      | tuple xs =>
        cases hm
        refine .inr (.inl ⟨env, F, ad, _, _, I, e1, fun v H1 F1 ad1 I1 g1 r1 => ?_⟩)
        obtain ⟨p, vs, rfl, h1, h2⟩ := r1.isTup
        exact ⟨p, rfl, ⟨vs, hκ ▸ (I1.sub.tupAt h1).sqT⟩, hκ ▸ k _ H1 F1 ad1 I1 g1 (tup_ok h1 h2)⟩
      | str s =>
        cases hm
        refine .inr (.inr ⟨env, F, ad, _, _, I, e1, fun v H1 F1 ad1 I1 g1 r1 => ?_⟩)
        exact ⟨s, r1.isStr, k _ H1 F1 ad1 I1 g1 str_ok⟩
      | none => cases hm
      | bool b => cases hm
      | int i => cases hm
      | dict kvs => cases hm
/-- enumerate(a list) -/
def enumD : Nat → List D → List D
  | _, [] => []
  | n, d :: ds => .tuple [.int (n : Int), d] :: enumD (n + 1) ds
theorem enumD_get : ∀ (ds : List D) (n i : Nat) (d : D), ds[i]? = some d → (enumD n ds)[i]? = some (.tuple [.int ((n + i : Nat) : Int), d])
  | [], _, _, _, h => by simp at h
  | x :: ds, n, 0, d, h => by
    simp at h
    subst h
    simp [enumD]
  | x :: ds, n, i + 1, d, h => by
    show (enumD (n + 1) ds)[i]? = _
    rw [enumD_get ds (n + 1) i d (by simpa using h), Nat.add_right_comm, Nat.add_assoc]
theorem enumD_length : ∀ (ds : List D) (n : Nat), (enumD n ds).length = ds.length
  | [], _ => rfl
  | _ :: ds, n => by show (enumD (n + 1) ds).length + 1 = _; rw [enumD_length ds]; rfl
def enm : List D → Option (List D)
  | [.list xs] => some (enumD 0 xs)
  | _ => none
theorem enum_ok {env : Env} {H1 F1 : Hp} {ad : Nat → Addr} {p : Addr} {vs : List V} {ds : List D} (h : SqL κ.K H1 p vs) (st : ∀ H F, Later env H1 F1 ad H F → SqL κ.K H p vs) (r : Reps κ F1 vs ds) : ItOk κ (Ite κ.K p) (enumD 0 ds) (Later env H1 F1 ad) := by
  have w := walk_enum (K := κ.K) (a := p) (xs := vs)
  have ln := enumD_length ds 0
  have lv := r.length
  refine ⟨fun H F l => ?_, fun i H F hi l => w.goes i H (by omega) (st H F l), fun i H F x H' hi l y => ?_⟩
  · rw [ln, ← lv]; exact w.stops H (st H F l)
  · obtain ⟨T, v1, v2, rfl, nT, rfl, e1, e2⟩ := w.yields i H x H' (by omega) (st H F l) y
    obtain ⟨d, hd, rd⟩ := r.getV e2
    have e1' : V.int (i : Nat) = v1 := Option.some.inj e1
    subst e1'
    obtain ⟨s, env2, ad2, g⟩ := id l
    have xt := Ext.laid (o := HO.tup [.int (i : Nat), v2]) s nT
    refine ⟨upd F T (.tup [.int (i : Nat), v2]), _, enumD_get ds 0 i d hd, xt.1.data nT xt.2 upd_same, .tup (.inl upd_same) (.two ?_ (rd.mono ?_))⟩
    · rw [Nat.zero_add]; exact .int _
    · exact .of_eq fun a u e => (sub_upd xt.2 a u (g.mono a u e)).elim id fun ⟨_, od, z⟩ => by
        have := g.mono a u e
        by_cases za : a = T
        · subst za; rw [xt.2] at this; cases this
        · rw [upd_ne za]; exact this
def iEnm (m : E) : I := fun env => match m env with
  | some (.list xs, env') => some (enumD 0 xs, env')
  | _ => none
theorem it_enum {m : E} {p tpos : Pos} {elts : List Expr} {kk : Nat} (hκ : κ.K = X.K) (hg : Gl X "enumerate") (hm : X.mg "enumerate" = none) (ha : PE X a (tE κ m)) (hs : starEach [a] X.env = [(false, eval a X.env)] := by rfl) :
    PI X (.Tuple elts kk tpos) (.Call (.Name "enumerate" p) [a] [] pos) (tI κ (iEnm m)) :=
  pi_of (pi_enum hg hm (pa_cons ha pa_nil hs) hs) fun σ H R q => by
    obtain ⟨env, F, ad, rs, env', I, h, k⟩ := q
    unfold iEnm at h
    split at h
    · rename_i xs env1 e1
      cases h
      refine ⟨env, F, ad, _, _, I, e1, fun v H1 F1 ad1 I1 g1 r1 => ?_⟩
      obtain ⟨p, vs, rfl, h1, h2⟩ := r1.isLst
      have s0 : SqL X.K H1 p vs := .inl (I1.sub.rd h1)
      exact ⟨p, vs, rfl, s0, hκ ▸ k _ H1 F1 ad1 I1 g1 (enum_ok (vs := vs) (hκ ▸ s0) (fun H F l => by
        obtain ⟨s, env2, ad2, g⟩ := l
        exact .inl (s.rd (g.sub.rd h1))) h2)⟩
    · cases h
end DL
/-! The data layer, 5: defs and their calls. -/
namespace DL
open PySem L2 PyProof.Rows
variable {κ : Kx} {X : Cx} {e a b : Expr} {pos : Pos}
/-- what a def makes of its arguments: a value, and what stands in its arguments behind it -/
abbrev Fn := List S → Option (D × List S)
def S.isOwn : S → Bool
  | .l .own _ => true
  | .m .own _ => true
  | _ => false
theorem S.isOwn_iff {s : S} : s.isOwn = false ↔ ¬ s.is .own := by
  cases s with
  | d x => simp [S.isOwn, S.is]
  | l k xs => cases k <;> simp [S.isOwn, S.is]
  | m k xs => cases k <;> simp [S.isOwn, S.is]
/-- the promise of a def with n parameters -/
def spD (κ : Kx) (f : Fn) (n : Nat) : Sp := fun vs H Q _ => ∃ args F ad d args', vs.length = n ∧ args.length = n ∧ Sim κ (args.map some) (vs.map some) H F ad ∧ args.all (fun s => !s.isOwn) = true ∧ f args = some (d, args') ∧
  ∀ v H' F', args'.length = n → Sim κ (args'.map some) (vs.map some) H' F' ad → Go (args.map some) H F ad (args'.map some) H' F' ad → Rep κ F' v d → Q v H'
/-- the i-th argument behind the body -/
def backOne (env' : Env) (i : Nat) : S → Option S
  | .d x => some (.d x)
  | .l k _ => match env'[i]? with
    | some (some (.l k' ys)) => if k' = k then some (.l k ys) else none
    | _ => none
  | .m k _ => match env'[i]? with
    | some (some (.m k' ys)) => if k' = k then some (.m k ys) else none
    | _ => none
def backs (env' : Env) : Nat → List S → Option (List S)
  | _, [] => some []
  | i, s :: r => (backOne env' i s).bind fun s' => (backs env' (i + 1) r).map fun r' => s' :: r'
theorem backs_get {env' : Env} : ∀ {ss rs : List S} {i : Nat}, backs env' i ss = some rs → rs.length = ss.length ∧ ∀ (j : Nat) (s : S), ss[j]? = some s → ∃ s', rs[j]? = some s' ∧ backOne env' (i + j) s = some s'
  | [], rs, i, h => by
    cases h
    exact ⟨rfl, fun j s e => by simp at e⟩
  | s :: ss, rs, i, h => by
    cases e1 : backOne env' i s with
    | none => simp only [backs, e1] at h; cases h
    | some s' =>
      cases e2 : backs env' (i + 1) ss with
      | none => simp only [backs, e1, Option.bind_some, e2] at h; cases h
      | some r' =>
        simp only [backs, e1, Option.bind_some, e2] at h
        cases h
        obtain ⟨l, g⟩ := backs_get e2
        refine ⟨by simp [l], fun j t e => ?_⟩
        cases j with
        | zero => simp at e; subst e; exact ⟨s', rfl, e1⟩
        | succ j =>
          obtain ⟨t', h1, h2⟩ := g j t (by simpa using e)
          exact ⟨t', by simpa using h1, by rw [← h2]; congr 1; omega⟩
def fnD (n : Nat) (body : P) : Fn := fun args => match body (args.map some ++ List.replicate (n - args.length) none) with
  | some (.rt d, env') => (backs env' 0 args).map fun r => (d, r)
  | some (.nx, env') => (backs env' 0 args).map fun r => (.none, r)
  | _ => none
theorem map_get {ss : List S} {i : Nat} {s : S} : (ss.map some)[i]? = some (some s) ↔ ss[i]? = some s := by
  rw [List.getElem?_map]
  cases ss[i]? <;> simp
/-- the state at a def's start -/
theorem Sim.start {args : List S} {vs : List V} {H F : Hp} {ad : Nat → Addr} {n : Nat} (I : Sim κ (args.map some) (vs.map some) H F ad) : Sim κ (args.map some ++ List.replicate (n - args.length) none) (vs.map some ++ List.replicate (n - vs.length) none) H F ad := by
  have hl : args.length = vs.length := by have := I.len; simpa using this
  have sub : ∀ (i : Nat) (s : S), (args.map some ++ List.replicate (n - args.length) none)[i]? = some (some s) → (args.map some)[i]? = some (some s) := fun i s e => by
    by_cases hi : i < (args.map some).length
    · rw [List.getElem?_append_left hi] at e; exact e
    · rw [List.getElem?_append_right (by omega), List.getElem?_replicate] at e
      split at e <;> cases e
  have up : ∀ (i : Nat) (v : V), (vs.map some)[i]? = some (some v) → (vs.map some ++ List.replicate (n - vs.length) none)[i]? = some (some v) := fun i v e => by
    have hi : i < (vs.map some).length := (List.getElem?_eq_some_iff.mp e).1
    rw [List.getElem?_append_left hi]
    exact e
  refine ⟨by simp [hl], I.sub, fun i s e => ?_, fun i j s t e1 e2 => I.inj i j s t (sub i s e1) (sub j t e2)⟩
  have q := I.slot i s (sub i s e)
  cases s with
  | d y => obtain ⟨w, e', r'⟩ := q; exact ⟨w, up i w e', r'⟩
  | l k xs => obtain ⟨e', r'⟩ := q; exact ⟨up i _ e', r'⟩
  | m k xs => obtain ⟨e', r'⟩ := q; exact ⟨up i _ e', r'⟩
/-- a def's end -/
theorem Sim.finish {args args' : List S} {vs : List V} {H F H' F' : Hp} {ad ad' : Nat → Addr} {n : Nat} {env' : Env} {σ' : L2.St} (I0 : Sim κ (args.map some) (vs.map some) H F ad) (ho : args.all (fun s => !s.isOwn) = true)
    (I' : Sim κ env' σ' H' F' ad') (g : Go (args.map some ++ List.replicate (n - args.length) none) H F ad env' H' F' ad') (hb : backs env' 0 args = some args') :
    args'.length = args.length ∧ Sim κ (args'.map some) (vs.map some) H' F' ad ∧ Go (args.map some) H F ad (args'.map some) H' F' ad := by
  obtain ⟨hl, hg⟩ := backs_get hb
  have hlv : args.length = vs.length := by have := I0.len; simpa using this
  have nown : ∀ (i : Nat) (s : S), args[i]? = some s → ¬ s.is .own := fun i s e => by
    have q := List.all_eq_true.mp ho s (List.mem_of_getElem? e)
    exact S.isOwn_iff.mp (by simpa using q)
  have up : ∀ (i : Nat) (s : S), args[i]? = some s → (args.map some ++ List.replicate (n - args.length) none)[i]? = some (some s) := fun i s e => by
    have hi : i < (args.map some).length := by rw [List.length_map]; exact (List.getElem?_eq_some_iff.mp e).1
    rw [List.getElem?_append_left hi]
    exact map_get.mpr e
  have down : ∀ (i : Nat) (s : S), (args.map some ++ List.replicate (n - args.length) none)[i]? = some (some s) → args[i]? = some s := fun i s e => by
    by_cases hi : i < (args.map some).length
    · rw [List.getElem?_append_left hi] at e; exact map_get.mp e
    · rw [List.getElem?_append_right (by omega), List.getElem?_replicate] at e
      split at e <;> cases e
  -- each argument behind the body
  have each : ∀ (i : Nat) (t : S), args'[i]? = some t → ∃ s, args[i]? = some s ∧ s.shape = t.shape ∧ (t.obj = true → env'[i]? = some (some t) ∧ ad' i = ad i ∧ (t.is .ro → s = t)) ∧ (t.obj = false → t = s) := fun i t e => by
    have hi : i < args.length := by rw [← hl]; exact (List.getElem?_eq_some_iff.mp e).1
    obtain ⟨t', h1, h2⟩ := hg i args[i] (List.getElem?_eq_getElem hi)
    rw [h1] at e
    cases e
    rw [Nat.zero_add] at h2
    have ea : args[i]? = some args[i] := List.getElem?_eq_getElem hi
    have no := nown i _ ea
    refine ⟨args[i], ea, ?_⟩
    generalize args[i] = s at *
    cases s with
    | d x => simp only [backOne] at h2; cases h2; exact ⟨rfl, fun h => (by cases h), fun _ => rfl⟩
    | l k xs =>
      simp only [backOne] at h2
      split at h2
      · rename_i k' ys e'
        split at h2
        · rename_i hk
          subst hk
          cases h2
          refine ⟨rfl, fun _ => ⟨e', ?_⟩, fun h => (by cases h)⟩
          have hk : k' = .rw ∨ k' = .ro := by cases k' <;> simp_all [S.is]
          obtain ⟨s0, q1, q2, q3, q4⟩ := g.brw i _ e' (by rcases hk with rfl | rfl; exact .inl rfl; exact .inr rfl)
          have := down i s0 q1
          rw [ea] at this
          cases this
          exact ⟨q3, q4⟩
        · cases h2
      · cases h2
    | m k xs =>
      simp only [backOne] at h2
      split at h2
      · rename_i k' ys e'
        split at h2
        · rename_i hk
          subst hk
          cases h2
          refine ⟨rfl, fun _ => ⟨e', ?_⟩, fun h => (by cases h)⟩
          have hk : k' = .rw ∨ k' = .ro := by cases k' <;> simp_all [S.is]
          obtain ⟨s0, q1, q2, q3, q4⟩ := g.brw i _ e' (by rcases hk with rfl | rfl; exact .inl rfl; exact .inr rfl)
          have := down i s0 q1
          rw [ea] at this
          cases this
          exact ⟨q3, q4⟩
        · cases h2
      · cases h2
  have atU : ∀ k x, At k (args.map some) ad x → At k (args.map some ++ List.replicate (n - args.length) none) ad x := fun k x ⟨i, s, e, hk, ea⟩ => ⟨i, s, up i s (map_get.mp e), hk, ea⟩
  have atD : ∀ k x, At k (args.map some ++ List.replicate (n - args.length) none) ad x → At k (args.map some) ad x := fun k x ⟨i, s, e, hk, ea⟩ => ⟨i, s, map_get.mpr (down i s e), hk, ea⟩
  refine ⟨hl, ⟨by simp [hl, hlv], I'.sub, fun i t e => ?_, fun i j s t e1 e2 o1 o2 q => ?_⟩, ⟨fun x o e n1 n2 => g.keep x o e (fun q => n1 (atD _ x q)) fun q => n2 (atD _ x q), g.pres, g.mono, fun x e => ?_, g.tupb, fun x q => ?_, fun i t e hk => ?_⟩⟩
  · obtain ⟨s, es, sh, h1, h2⟩ := each i t (map_get.mp e)
    have q0 := I0.slot i s (map_get.mpr es)
    cases hob : t.obj with
    | false =>
      obtain rfl := h2 hob
      cases t with
      | d y => obtain ⟨w, e', r'⟩ := q0; exact ⟨w, e', r'.mono g.sub⟩
      | l k xs => cases hob
      | m k xs => cases hob
    | true =>
      obtain ⟨e', ead, _⟩ := h1 hob
      have q1 := I'.slot i t e'
      rw [ead] at q1
      cases t with
      | d y => cases hob
      | l k xs =>
        obtain ⟨z, hf, r'⟩ := q1
        cases s with
        | d y => cases sh
        | m k' ys => simp [S.shape] at sh
        | l k' ys => exact ⟨q0.1, hf, r'⟩
      | m k xs =>
        obtain ⟨z, hf, r'⟩ := q1
        cases s with
        | d y => cases sh
        | l k' ys => simp [S.shape] at sh
        | m k' ys => exact ⟨q0.1, hf, r'⟩
  · obtain ⟨s0, es, sh, _⟩ := each i s (map_get.mp e1)
    obtain ⟨t0, et, sh', _⟩ := each j t (map_get.mp e2)
    have oo : ∀ {x y : S}, x.shape = y.shape → y.obj = true → x.obj = true := fun {x y} h h' => by cases x <;> cases y <;> simp_all [S.shape, S.obj]
    exact I0.inj i j s0 t0 (map_get.mpr es) (map_get.mpr et) (oo sh o1) (oo sh' o2) q
  · rcases g.new x e with q | q | q | q
    · exact .inl q
    · exact .inr (.inl q)
    · exact .inr (.inr (.inl (atD _ x q)))
    · exact .inr (.inr (.inr q))
  · obtain ⟨i, t, e, hk, ea⟩ := q
    obtain ⟨s, es, sh, _⟩ := each i t (map_get.mp e)
    exact absurd ((S.shape_rw sh .own).mpr hk) (nown i s es)
  · obtain ⟨s, es, sh, h1, h2⟩ := each i t (map_get.mp e)
    have hob : t.obj = true := by cases t <;> first | rfl | (rcases hk with hk | hk <;> exact False.elim hk)
    exact ⟨s, map_get.mpr es, sh, rfl, (h1 hob).2.2⟩
/-- what a module's name stands for: a def that keeps its promise -/
structure Gbl (κ : Kx) (pr : Program) (w : World) (mg : Str → Option Value) (base : Heap) (x : Str) (ps : List Str) (k : Nat) (f : Fn) : Prop where
  ex : ∃ (a : Addr) (fd : FuncData), mg x = some (.ref a) ∧ PySem.W.keepIn κ.K (.ref a) = true ∧ Binds κ.K fd ps [] ∧ FnOk pr w κ.K mg base CX0 k a fd ps (spD κ f ps.length)
theorem Gbl.mono {pr : Program} {w : World} {mg : Str → Option Value} {base : Heap} {x : Str} {ps : List Str} {j k : Nat} {f : Fn} (G : Gbl κ pr w mg base x ps j f) (h : j ≤ k) : Gbl κ pr w mg base x ps k f := by
  obtain ⟨a, fd, h1, h2, h3, h4⟩ := G.ex
  exact ⟨a, fd, h1, h2, h3, h4.mono h⟩
/-- a def of the text keeps its promise -/
theorem fn_ok {pr : Program} {w : World} {mg : Str → Option Value} {base : Heap} {x : Str} {st : Stmt} {fa : Addr} {fd : FuncData} {N ps : List Str} {k : Nat} {m : P} (Fu : L2.Fun κ.K x x st fa fd) (S : FnScope N ps (defScope st))
    (hbody : ∀ (cdv : Value) (A : Around) (outer : List PySem.Env) (s : Shared) (H : Hp) (E : XK), Room k (A.deeper (envOfC x (defScope st) s.heap.objs.size fa cdv)) →
      PSs (cxOf CX0 pr w κ.K mg base N x (defScope st) fa cdv A outer s H E).nox (defBody st) (tS κ m)) :
    FnOk pr w κ.K mg base CX0 (k + 1) fa fd ps (spD κ (fnD N.length m) ps.length) := by
  refine Fu.ok S (fun vs H Q E h => ?_) (fun cdv A outer s H vs Q E hr h => ⟨_, hbody cdv A outer s H E hr, ?_⟩)
  · obtain ⟨args, F, ad, d, args', h1, _⟩ := h
    exact h1
  · obtain ⟨args, F, ad, d, args', h1, h2, I0, ho, hf, k⟩ := h
    unfold fnD at hf
    split at hf
    · rename_i d' env' e1
      cases e2 : backs env' 0 args with
      | none => rw [e2] at hf; cases hf
      | some r =>
        rw [e2] at hf
        cases hf
        refine ⟨_, F, ad, .rt d, env', I0.start, e1, fun σ' H' F' ad' I' g v r => ?_⟩
        obtain ⟨l, J, gg⟩ := I0.finish ho I' g e2
        exact k v H' F' (l.trans h2) J gg r
    · rename_i env' e1
      cases e2 : backs env' 0 args with
      | none => rw [e2] at hf; cases hf
      | some r =>
        rw [e2] at hf
        cases hf
        refine ⟨_, F, ad, .nx, env', I0.start, e1, fun σ' H' F' ad' I' g => ?_⟩
        obtain ⟨l, J, gg⟩ := I0.finish ho I' g e2
        exact k .non H' F' (l.trans h2) J gg .non
    · cases hf
/-! ### a call -/
def S.lend : S → S
  | .l .own xs => .l .rw xs
  | .m .own xs => .m .rw xs
  | s => s
def Itm.arg (env : Env) : Itm → Option S
  | .d x => some (.d x)
  | .i j => (env[j]?.bind id).map S.lend
def argAll (env : Env) : List Itm → Option (List S)
  | [] => some []
  | t :: r => (t.arg env).bind fun d => (argAll env r).map fun ds => d :: ds
/-- s as it was, with what stands in it now -/
def S.back : S → S → Option S
  | .l k _, .l _ ys => some (.l k ys)
  | .m k _, .m _ ys => some (.m k ys)
  | .d x, _ => some (.d x)
  | _, _ => none
def giveBack : List Itm → List S → Env → Option Env
  | [], [], env => some env
  | .d _ :: ts, _ :: ss, env => giveBack ts ss env
  | .i j :: ts, s :: ss, env => (env[j]?.bind id).bind fun s0 => (s0.back s).bind fun s1 => giveBack ts ss (env.set j (some s1))
  | _, _, _ => none
/-- no slot's object is handed in twice -/
def apart (env : Env) : List Itm → Bool
  | [] => true
  | .d _ :: ts => apart env ts
  | .i j :: ts => (match env[j]? with
    | some (some (.d _)) => true
    | _ => ts.all fun t => match t with
      | .i j' => decide (j' ≠ j)
      | .d _ => true) && apart env ts
def eCall (f : Fn) (os : List Opd) : E := fun env => (runOpds os env).bind fun a => if apart a.2 a.1 = true then (argAll a.2 a.1).bind fun args => (f args).bind fun r => (giveBack a.1 r.2 a.2).map fun env' => (r.1, env') else none
theorem eCall_some {f : Fn} {os : List Opd} {env env' : Env} {d : D} (h : eCall f os env = some (d, env')) :
    ∃ ts env1 args args', runOpds os env = some (ts, env1) ∧ apart env1 ts = true ∧ argAll env1 ts = some args ∧ f args = some (d, args') ∧ giveBack ts args' env1 = some env' := by
  unfold eCall at h
  cases e1 : runOpds os env with
  | none => rw [e1] at h; cases h
  | some a =>
    obtain ⟨ts, env1⟩ := a
    rw [e1, Option.bind_some] at h
    by_cases hap : apart env1 ts = true
    · rw [if_pos hap] at h
      cases e2 : argAll env1 ts with
      | none => rw [e2] at h; cases h
      | some args =>
        rw [e2, Option.bind_some] at h
        cases e3 : f args with
        | none => rw [e3] at h; cases h
        | some r =>
          obtain ⟨d', args'⟩ := r
          rw [e3, Option.bind_some] at h
          cases e4 : giveBack ts args' env1 with
          | none => rw [e4] at h; cases h
          | some en =>
            rw [e4] at h
            cases h
            exact ⟨ts, env1, args, args', rfl, hap, e2, e3, e4⟩
    · rw [if_neg hap] at h; cases h
theorem argAll_get {env : Env} : ∀ {ts : List Itm} {args : List S}, argAll env ts = some args → args.length = ts.length ∧ ∀ (i : Nat) (s : S), args[i]? = some s → ∃ t, ts[i]? = some t ∧ t.arg env = some s
  | [], args, h => by
    cases h
    exact ⟨rfl, fun i s e => by simp at e⟩
  | t :: ts, args, h => by
    cases e1 : t.arg env with
    | none => simp only [argAll, e1] at h; cases h
    | some s' =>
      cases e2 : argAll env ts with
      | none => simp only [argAll, e1, Option.bind_some, e2] at h; cases h
      | some r' =>
        simp only [argAll, e1, Option.bind_some, e2] at h
        cases h
        obtain ⟨l, g⟩ := argAll_get e2
        refine ⟨by simp [l], fun i s e => ?_⟩
        cases i with
        | zero => simp at e; subst e; exact ⟨t, rfl, e1⟩
        | succ i =>
          obtain ⟨t', h1, h2⟩ := g i s (by simpa using e)
          exact ⟨t', by simpa using h1, h2⟩
/-- slot j is handed in at place p -/
def Hand (ts : List Itm) (p j : Nat) : Prop := ts[p]? = some (.i j)
theorem apart_inj {env : Env} : ∀ {ts : List Itm}, apart env ts = true → ∀ (p q j : Nat) (s : S), Hand ts p j → Hand ts q j → env[j]? = some (some s) → s.obj = true → p = q
  | [], _, p, q, j, s, h, _, _, _ => by simp [Hand] at h
  | .d x :: ts, h, p, q, j, s, h1, h2, e, o => by
    simp only [apart] at h
    cases p with
    | zero => simp [Hand] at h1
    | succ p =>
      cases q with
      | zero => simp [Hand] at h2
      | succ q => rw [apart_inj h p q j s (by simpa [Hand] using h1) (by simpa [Hand] using h2) e o]
  | .i k :: ts, h, p, q, j, s, h1, h2, e, o => by
    simp only [apart, Bool.and_eq_true] at h
    have no : ∀ q', Hand ts q' j → k = j → False := fun q' hq hk => by
      subst hk
      have h3 := h.1
      rw [e] at h3
      have all : (ts.all fun t => match t with
          | .i j' => decide (j' ≠ k)
          | .d _ => true) = true := by cases s <;> first | exact h3 | cases o
      have z := List.all_eq_true.mp all _ (List.mem_of_getElem? hq)
      simp at z
    cases p with
    | zero =>
      have ek : k = j := by simpa [Hand] using h1
      cases q with
      | zero => rfl
      | succ q => exact (no q (by simpa [Hand] using h2) ek).elim
    | succ p =>
      cases q with
      | zero =>
        have ek : k = j := by simpa [Hand] using h2
        exact (no p (by simpa [Hand] using h1) ek).elim
      | succ q => rw [apart_inj h.2 p q j s (by simpa [Hand] using h1) (by simpa [Hand] using h2) e o]
/-- what a slot holds behind the call -/
theorem giveBack_get : ∀ {ts : List Itm} {ss : List S} {env env' : Env}, giveBack ts ss env = some env' → ts.length = ss.length ∧ env'.length = env.length ∧ ∀ (j : Nat) (s' : S), env'[j]? = some (some s') →
    ∃ s, env[j]? = some (some s) ∧ s.shape = s'.shape ∧ ((s' = s ∧ ((∀ p, ¬ Hand ts p j) ∨ s.obj = false)) ∨ ∃ p r, Hand ts p j ∧ ss[p]? = some r ∧ s.back r = some s')
  | [], [], env, env', h => by
    cases h
    exact ⟨rfl, rfl, fun j s' e => ⟨s', e, rfl, .inl ⟨rfl, .inl fun p q => by simp [Hand] at q⟩⟩⟩
  | [], _ :: _, _, _, h => by simp only [giveBack] at h; cases h
  | .d x :: ts, [], _, _, h => by simp only [giveBack] at h; cases h
  | .i j :: ts, [], _, _, h => by simp only [giveBack] at h; cases h
  | .d x :: ts, r :: ss, env, env', h => by
    simp only [giveBack] at h
    obtain ⟨l, l2, g⟩ := giveBack_get h
    refine ⟨by simp [l], l2, fun j s' e => ?_⟩
    obtain ⟨s, e0, sh, g2⟩ := g j s' e
    refine ⟨s, e0, sh, ?_⟩
    rcases g2 with ⟨e1, n⟩ | ⟨p, r', h1, h2, h3⟩
    · refine .inl ⟨e1, n.imp (fun n p q => ?_) id⟩
      cases p with
      | zero => simp [Hand] at q
      | succ p => exact n p (by simpa [Hand] using q)
    · exact .inr ⟨p + 1, r', by simpa [Hand] using h1, by simpa using h2, h3⟩
  | .i k :: ts, r :: ss, env, env', h => by
    simp only [giveBack] at h
    cases e0 : env[k]? with
    | none => rw [e0] at h; cases h
    | some o =>
      cases o with
      | none => rw [e0] at h; cases h
      | some s0 =>
        rw [e0] at h
        simp only [Option.bind_some, id] at h
        cases eb : s0.back r with
        | none => rw [eb] at h; cases h
        | some s1 =>
          rw [eb, Option.bind_some] at h
          obtain ⟨l, l2, g⟩ := giveBack_get h
          have sh1 : s0.shape = s1.shape := by
            cases s0 <;> cases r <;> simp only [S.back] at eb <;> cases eb <;> rfl
          have hk : k < env.length := (List.getElem?_eq_some_iff.mp e0).1
          refine ⟨by simp [l], by rw [l2, List.length_set], fun j s' e => ?_⟩
          obtain ⟨s, e1, sh, g2⟩ := g j s' e
          rw [getElem?_set'] at e1
          by_cases z : k = j
          · subst z
            rw [if_pos rfl, if_pos hk] at e1
            cases e1
            refine ⟨s0, e0, sh1.trans sh, ?_⟩
            rcases g2 with ⟨e1, n⟩ | ⟨p, r', h1, h2, h3⟩
            · subst e1
              exact .inr ⟨0, r, by simp [Hand], rfl, eb⟩
            · refine .inr ⟨p + 1, r', by simpa [Hand] using h1, by simpa using h2, ?_⟩
              cases s0 <;> cases r <;> simp only [S.back] at eb <;> cases eb <;> cases r' <;> simp only [S.back] at h3 ⊢ <;> exact h3
          · rw [if_neg z] at e1
            refine ⟨s, e1, sh, ?_⟩
            rcases g2 with ⟨e2, n⟩ | ⟨p, r', h1, h2, h3⟩
            · refine .inl ⟨e2, n.imp (fun n p q => ?_) id⟩
              cases p with
              | zero => exact z (by simpa [Hand] using q)
              | succ p => exact n p (by simpa [Hand] using q)
            · exact .inr ⟨p + 1, r', by simpa [Hand] using h1, by simpa using h2, h3⟩
theorem paired_at {α β : Type} {G : α → β → Prop} : ∀ {l : List α} {r : List β}, Paired G l r → l.length = r.length ∧ ∀ (i : Nat) (b : β), r[i]? = some b → ∃ a, l[i]? = some a ∧ G a b
  | _, _, .nil => ⟨rfl, fun i b e => by simp at e⟩
  | _, _, .cons h q => by
    obtain ⟨l, g⟩ := paired_at q
    refine ⟨by simp [l], fun i b e => ?_⟩
    cases i with
    | zero => simp at e; subst e; exact ⟨_, rfl, h⟩
    | succ i =>
      obtain ⟨a, h1, h2⟩ := g i b (by simpa using e)
      exact ⟨a, by simpa using h1, h2⟩
/-- where the handed objects stand -/
def adOf (ts : List Itm) (ad : Nat → Addr) : Nat → Addr := fun p => match ts[p]? with
  | some (.i j) => ad j
  | _ => 0
theorem adOf_hand {ts : List Itm} {ad : Nat → Addr} {p j : Nat} (h : Hand ts p j) : adOf ts ad p = ad j := by
  unfold adOf
  rw [show ts[p]? = some (.i j) from h]
theorem arg_i {env : Env} {j : Nat} {s : S} (h : (Itm.i j).arg env = some s) : ∃ s0, env[j]? = some (some s0) ∧ s = s0.lend := by
  simp only [Itm.arg] at h
  cases e : env[j]? with
  | none => rw [e] at h; cases h
  | some o =>
    cases o with
    | none => rw [e] at h; cases h
    | some s0 => rw [e] at h; cases h; exact ⟨s0, rfl, rfl⟩
theorem lend_obj {s : S} : s.lend.obj = s.obj := by
  cases s with
  | d x => rfl
  | l k xs => cases k <;> rfl
  | m k xs => cases k <;> rfl
theorem lend_own {s : S} : s.lend.isOwn = false := by
  cases s with
  | d x => rfl
  | l k xs => cases k <;> rfl
  | m k xs => cases k <;> rfl
/-- the callee's start -/
theorem Sim.hand {env : Env} {σ : L2.St} {H F : Hp} {ad : Nat → Addr} {ts : List Itm} {vs : List V} {args : List S} (I : Sim κ env σ H F ad) (r : Paired (ItmOk κ σ F) vs ts) (ha : argAll env ts = some args) (hap : apart env ts = true) :
    Sim κ (args.map some) (vs.map some) H F (adOf ts ad) := by
  obtain ⟨hl, hg⟩ := argAll_get ha
  obtain ⟨pl, pg⟩ := paired_at r
  refine ⟨by simp [hl, pl], I.sub, fun p s e => ?_, fun p q s t e1 e2 o1 o2 z => ?_⟩
  · obtain ⟨t, et, ea⟩ := hg p s (map_get.mp e)
    obtain ⟨v, ev, iv⟩ := pg p t et
    have ev' : (vs.map some)[p]? = some (some v) := by rw [List.getElem?_map, ev]; rfl
    cases t with
    | d x =>
      simp only [Itm.arg] at ea
      cases ea
      exact ⟨v, ev', iv⟩
    | i j =>
      obtain ⟨s0, e0, rfl⟩ := arg_i ea
      have q := I.slot j s0 e0
      have iv' : σ[j]? = some (some v) := iv
      rw [adOf_hand (show Hand ts p j from et)]
      cases s0 with
      | d x =>
        obtain ⟨w, e', rr⟩ := q
        rw [iv'] at e'
        cases e'
        exact ⟨v, ev', rr⟩
      | l k xs =>
        obtain ⟨e', hf, ws, hv, rr⟩ := q
        rw [iv'] at e'
        cases e'
        cases k <;> exact ⟨ev', hf, ws, hv, rr⟩
      | m k xs =>
        obtain ⟨e', hf, ws, hv, rr⟩ := q
        rw [iv'] at e'
        cases e'
        cases k <;> exact ⟨ev', hf, ws, hv, rr⟩
  · obtain ⟨t1, et1, ea1⟩ := hg p s (map_get.mp e1)
    obtain ⟨t2, et2, ea2⟩ := hg q t (map_get.mp e2)
    cases t1 with
    | d x => simp only [Itm.arg] at ea1; cases ea1; cases o1
    | i j1 =>
      cases t2 with
      | d x => simp only [Itm.arg] at ea2; cases ea2; cases o2
      | i j2 =>
        obtain ⟨s0, e0, rfl⟩ := arg_i ea1
        obtain ⟨t0, f0, rfl⟩ := arg_i ea2
        rw [adOf_hand (show Hand ts p j1 from et1), adOf_hand (show Hand ts q j2 from et2)] at z
        have ej := I.inj j1 j2 s0 t0 e0 f0 (by rw [← lend_obj]; exact o1) (by rw [← lend_obj]; exact o2) z
        subst ej
        exact apart_inj hap p q j1 s0 et1 et2 e0 (by rw [← lend_obj]; exact o1)
theorem hand_rw {env : Env} {ts : List Itm} {args : List S} {ad : Nat → Addr} (ha : argAll env ts = some args) {a : Addr} (h : At .rw (args.map some) (adOf ts ad) a) : ∃ p j s0, Hand ts p j ∧ env[j]? = some (some s0) ∧ (s0.is .rw ∨ s0.is .own) ∧ ad j = a := by
  obtain ⟨hl, hg⟩ := argAll_get ha
  obtain ⟨p, s, e, hk, ea⟩ := h
  obtain ⟨t, et, e1⟩ := hg p s (map_get.mp e)
  cases t with
  | d x => simp only [Itm.arg] at e1; cases e1; exact False.elim hk
  | i j =>
    obtain ⟨s0, e0, rfl⟩ := arg_i e1
    rw [adOf_hand (show Hand ts p j from et)] at ea
    refine ⟨p, j, s0, et, e0, ?_, ea⟩
    cases s0 with
    | d x => exact False.elim hk
    | l k xs => cases k <;> simp_all [S.is, S.lend]
    | m k xs => cases k <;> simp_all [S.is, S.lend]
theorem hand_own {env : Env} {ts : List Itm} {args : List S} {ad : Nat → Addr} (ha : argAll env ts = some args) {a : Addr} (h : At .own (args.map some) (adOf ts ad) a) : False := by
  obtain ⟨hl, hg⟩ := argAll_get ha
  obtain ⟨p, s, e, hk, ea⟩ := h
  obtain ⟨t, et, e1⟩ := hg p s (map_get.mp e)
  cases t with
  | d x => simp only [Itm.arg] at e1; cases e1; exact False.elim hk
  | i j =>
    obtain ⟨s0, e0, rfl⟩ := arg_i e1
    exact S.isOwn_iff.mp lend_own hk
theorem args_all {env : Env} {ts : List Itm} {args : List S} (ha : argAll env ts = some args) : args.all (fun s => !s.isOwn) = true := by
  obtain ⟨hl, hg⟩ := argAll_get ha
  refine List.all_eq_true.mpr fun s hs => ?_
  obtain ⟨p, hp⟩ := List.getElem?_of_mem hs
  obtain ⟨t, et, e1⟩ := hg p s hp
  cases t with
  | d x => simp only [Itm.arg] at e1; cases e1; rfl
  | i j =>
    obtain ⟨s0, e0, rfl⟩ := arg_i e1
    rw [lend_own]; rfl
/-- the caller goes on -/
theorem Sim.taken {env env' : Env} {σ : L2.St} {H F H' F' : Hp} {ad : Nat → Addr} {ts : List Itm} {vs : List V} {args args' : List S} (I : Sim κ env σ H F ad) (r : Paired (ItmOk κ σ F) vs ts) (ha : argAll env ts = some args)
    (hb : giveBack ts args' env = some env') (J : Sim κ (args'.map some) (vs.map some) H' F' (adOf ts ad)) (g : Go (args.map some) H F (adOf ts ad) (args'.map some) H' F' (adOf ts ad)) :
    Sim κ env' σ H' F' ad ∧ Go env H F ad env' H' F' ad := by
  obtain ⟨hl, hg⟩ := argAll_get ha
  obtain ⟨pl, pg⟩ := paired_at r
  obtain ⟨bl, bl2, bg⟩ := giveBack_get hb
  -- an object that was not handed in
  have stay : ∀ (j : Nat) (s : S), env[j]? = some (some s) → s.obj = true → (∀ p, ¬ Hand ts p j) → (∀ o, H (ad j) = some o → H' (ad j) = some o) ∧ F' (ad j) = none := fun j s e o n => by
    obtain ⟨hf, ob, hr, ht⟩ := I.objAt e o
    have nrw : ¬ At .rw (args.map some) (adOf ts ad) (ad j) := fun q => by
      obtain ⟨p, j', s0, h1, e0, h2, ea⟩ := hand_rw ha q
      have : j' = j := I.inj j' j s0 s e0 e (by rcases h2 with h2 | h2 <;> (cases s0 <;> first | rfl | exact False.elim h2)) o ea
      subst this
      exact n p h1
    refine ⟨fun ob' e' => g.keep (ad j) ob' e' nrw (fun q => hand_own ha q), ?_⟩
    cases e' : F' (ad j) with
    | none => rfl
    | some u =>
      rcases g.new (ad j) (by rw [e']; simp) with q | q | q | ⟨ws, q⟩
      · exact absurd hf q
      · rcases hr with hr | ⟨od, hr⟩ <;> rw [q] at hr <;> cases hr
      · exact (hand_own ha q).elim
      · rcases hr with hr | ⟨od, hr⟩ <;> rw [q] at hr <;> cases hr
        exact absurd rfl (ht ws)
  -- the kinds of what comes back
  have kin : ∀ (p j : Nat) (s r : S), Hand ts p j → env[j]? = some (some s) → s.obj = true → args'[p]? = some r → r.obj = true → r.shape = s.lend.shape ∧ (s.is .ro → r = s) := fun p j s r h e o er hr => by
    have nown : ¬ r.is .own := fun q => by
      rcases g.own (ad j) ⟨p, r, map_get.mpr er, q, adOf_hand h⟩ with z | z
      · exact hand_own ha z
      · obtain ⟨hf, ob, hr, ht⟩ := I.objAt e o
        rcases hr with hr | ⟨od, hr⟩ <;> rw [z] at hr <;> cases hr
    have hk : r.is .rw ∨ r.is .ro := by
      obtain ⟨k, hk⟩ := S.obj_is hr
      cases k with
      | ro => exact .inr hk
      | rw => exact .inl hk
      | own => exact absurd hk nown
    obtain ⟨s1, e1, sh, _, ro⟩ := g.brw p r (map_get.mpr er) hk
    obtain ⟨t, et, ea⟩ := hg p s1 (map_get.mp e1)
    have h' : ts[p]? = some (.i j) := h
    rw [h'] at et
    cases et
    obtain ⟨s0, e0, rfl⟩ := arg_i ea
    rw [e] at e0
    cases e0
    refine ⟨sh.symm, fun q => ?_⟩
    have hro : r.is .ro := (S.shape_rw sh .ro).mp (by cases s <;> first | exact False.elim q | (cases q; rfl))
    have := ro hro
    rw [← this]
    cases s <;> first | exact False.elim q | (cases q; rfl)
  refine ⟨⟨bl2.trans I.len, J.sub, fun j s' e => ?_, fun i j s t e1 e2 o1 o2 q => ?_⟩, ⟨fun a o e n1 n2 => g.keep a o e (fun q => ?_) (fun q => hand_own ha q), g.pres, g.mono, fun a e => ?_, g.tupb, fun a q => ?_, fun j s' e hk => ?_⟩⟩
  · obtain ⟨s, e0, sh, c⟩ := bg j s' e
    have q := I.slot j s e0
    rcases c with ⟨rfl, n⟩ | ⟨p, r, hh, er, eb⟩
    · cases s' with
      | d x => obtain ⟨w, e', rr⟩ := q; exact ⟨w, e', rr.mono g.sub⟩
      | l k xs =>
        obtain ⟨e', hf, ws, hv, rr⟩ := q
        obtain ⟨h1, h2⟩ := stay j _ e0 rfl (n.resolve_right (fun z => by cases z))
        refine ⟨e', h2, ws, ?_, rr.mono g.sub⟩
        cases k with
        | ro => rcases hv with hv | ⟨od, hv⟩; exact .inl (h1 _ hv); exact .inr ⟨od, h1 _ hv⟩
        | rw => exact h1 _ hv
        | own => exact h1 _ hv
      | m k xs =>
        obtain ⟨e', hf, ws, hv, rr⟩ := q
        obtain ⟨h1, h2⟩ := stay j _ e0 rfl (n.resolve_right (fun z => by cases z))
        refine ⟨e', h2, ws, ?_, rr.mono g.sub⟩
        cases k with
        | ro => rcases hv with hv | ⟨od, hv⟩; exact .inl (h1 _ hv); exact .inr ⟨od, h1 _ hv⟩
        | rw => exact h1 _ hv
        | own => exact h1 _ hv
    · have jq := J.slot p r (map_get.mpr er)
      rw [adOf_hand hh] at jq
      cases s with
      | d x =>
        cases eb
        obtain ⟨w, e', rr⟩ := q
        exact ⟨w, e', rr.mono g.sub⟩
      | l k xs =>
        cases r with
        | d y => cases eb
        | m k' ys => cases eb
        | l k' ys =>
          cases eb
          obtain ⟨sh', _⟩ := kin p j _ _ hh e0 rfl er rfl
          obtain ⟨_, hf, ws, hv, rr⟩ := jq
          refine ⟨q.1, hf, ws, ?_, rr⟩
          cases k <;> cases k' <;> first | exact hv | (simp [S.shape, S.lend] at sh')
      | m k xs =>
        cases r with
        | d y => cases eb
        | l k' ys => cases eb
        | m k' ys =>
          cases eb
          obtain ⟨sh', _⟩ := kin p j _ _ hh e0 rfl er rfl
          obtain ⟨_, hf, ws, hv, rr⟩ := jq
          refine ⟨q.1, hf, ws, ?_, rr⟩
          cases k <;> cases k' <;> first | exact hv | (simp [S.shape, S.lend] at sh')
  · obtain ⟨s0, f1, sh1, _⟩ := bg i s e1
    obtain ⟨t0, f2, sh2, _⟩ := bg j t e2
    have oo : ∀ {x y : S}, x.shape = y.shape → y.obj = true → x.obj = true := fun {x y} h h' => by cases x <;> cases y <;> simp_all [S.shape, S.obj]
    exact I.inj i j s0 t0 f1 f2 (oo sh1 o1) (oo sh2 o2) q
  · obtain ⟨p, j, s0, h1, e0, h2, ea⟩ := hand_rw ha q
    rcases h2 with h2 | h2
    · exact n1 ⟨j, s0, e0, h2, ea⟩
    · exact n2 ⟨j, s0, e0, h2, ea⟩
  · rcases g.new a e with q | q | q | q
    · exact .inl q
    · exact .inr (.inl q)
    · exact (hand_own ha q).elim
    · exact .inr (.inr (.inr q))
  · obtain ⟨j, s', e, hk, ea⟩ := q
    obtain ⟨s, e0, sh, _⟩ := bg j s' e
    exact .inl ⟨j, s, e0, (S.shape_rw sh .own).mpr hk, ea⟩
  · obtain ⟨s, e0, sh, c⟩ := bg j s' e
    refine ⟨s, e0, sh, rfl, fun hro => ?_⟩
    rcases c with ⟨rfl, n⟩ | ⟨p, r, hh, er, eb⟩
    · rfl
    · have hs : s.is .ro := (S.shape_rw sh .ro).mpr hro
      have ho : s.obj = true := by cases s <;> first | rfl | exact False.elim hs
      have hr : r.obj = true := by cases s <;> cases r <;> first | rfl | exact False.elim hs | cases eb
      obtain ⟨_, z⟩ := kin p j s r hh e0 ho er hr
      have z := z hs
      subst z
      cases r <;> first | exact False.elim hs | (cases eb; rfl)
/-- f(e, ..) of a def that keeps its promise -/
theorem ed_call {x : Str} {ps : List Str} {k : Nat} {f : Fn} {es : List Expr} {os : List Opd} {p : Pos} (hκ : κ.K = X.K) (G : Gbl κ X.prog X.w X.mg X.base x ps k f) (hr : Room k X.A) (hg : Gl X x) (ha : PA X (e :: es) (tOs κ os)) (hlen : os.length = ps.length) (hdb : (x == ("__debug__" : Str)) = false := by decide)
    (he : starEach (e :: es) X.env = (false, eval e X.env) :: starEach es X.env := by rfl) (hpl : (backTo pos (starEach es X.env)).any (·.1) = false := by rfl) : PE X (.Call (.Name x p) (e :: es) [] pos) (tE κ (eCall f os)) := by
  obtain ⟨fa, fd, h1, h2, h3, h4⟩ := G.ex
  refine pe_of (pe_call (E := E0) (dvs := []) (ds := []) (hκ ▸ h4) hr hg h1 (hκ ▸ h2) (hκ ▸ h3) .nil pass0 ha hdb he hpl) fun σ H Q q => ?_
  obtain ⟨env, F, ad, d, env', I, hm, kk⟩ := q
  obtain ⟨ts, env1, args, args', q1, q2, q3, q4, q5⟩ := eCall_some hm
  refine ⟨env, F, ad, ts, env1, I, q1, fun vs H1 F1 ad1 I1 g1 r1 => ?_⟩
  obtain ⟨hl, _⟩ := argAll_get q3
  obtain ⟨pl, _⟩ := paired_at r1
  have tl : ts.length = os.length := by
    have gen : ∀ {os : List Opd} {en en' : Env} {ts : List Itm}, runOpds os en = some (ts, en') → ts.length = os.length := by
      intro os
      induction os with
      | nil => intro en en' ts h; cases h; rfl
      | cons o os ih =>
        intro en en' ts h
        cases e1 : runOpd o en with
        | none => simp only [runOpds, e1] at h; cases h
        | some a =>
          cases e2 : runOpds os a.2 with
          | none => simp only [runOpds, e1, Option.bind_some, e2] at h; cases h
          | some b =>
            simp only [runOpds, e1, Option.bind_some, e2] at h
            cases h
            rw [List.length_cons, List.length_cons, ih e2]
    exact gen q1
  rw [List.append_nil]
  refine ⟨args, F1, adOf ts ad1, d, args', by omega, by omega, I1.hand r1 q3 q2, args_all q3, q4, fun v H' F' hla J g r => ?_⟩
  obtain ⟨I2, g2⟩ := I1.taken r1 q3 q5 J g
  exact kk v H' F' ad1 I2 (g1.trans g2) r
end DL
/-! The data layer, 6: operations. -/
namespace DL
open PySem L2 PyProof.Rows
variable {κ : Kx} {X : Cx} {e a b : Expr} {pos : Pos}
theorem opr_or {f : Value → Value → Sem Value} {r r' : R2} (h : OpR X f r) (h' : OpR X f r') : OpR X f (fun x y H Q => r x y H Q ∨ r' x y H Q) := fun pins s σ H x y v u Q I rx ry q => by
  rcases q with q | q
  · exact h pins s σ H x y v u Q I rx ry q
  · exact h' pins s σ H x y v u Q I rx ry q
/-! ### new objects -/
theorem new_data {H F : Hp} {p : Addr} {o : HO} (hs : Sub F H) (hp : H p = none) : Ext H F (upd H p o) (upd F p o) :=
  (Ext.laid hs hp).1.data hp (Ext.laid (o := o) hs hp).2 upd_same
theorem new_sub {H F : Hp} {p : Addr} {o : HO} (hs : Sub F H) (hp : H p = none) : Sub F (upd F p o) := sub_upd (Ext.laid (o := o) hs hp).2
/-- a new tuple is handed on -/
theorem fin_tup {H F : Hp} {d : D} {Q : VK} {p : Addr} {vs : List V} {xs : List D} (hs : Sub F H) (hp : H p = none) (r : Reps κ F vs xs) (hd : d = .tuple xs)
    (k : ∀ w H' F', Ext H F H' F' → Rep κ F' w d → Q w H') : Q (.ref p) (upd H p (.tup vs)) := by
  subst hd
  exact k _ _ _ (new_data hs hp) (.tup (.inl upd_same) (r.mono (new_sub hs hp)))
theorem fin_lst {H F : Hp} {d : D} {Q : VK} {p : Addr} {vs : List V} {xs : List D} (hs : Sub F H) (hp : H p = none) (r : Reps κ F vs xs) (hd : d = .list xs)
    (k : ∀ w H' F', Ext H F H' F' → Rep κ F' w d → Q w H') : Q (.ref p) (upd H p (.lst vs)) := by
  subst hd
  exact k _ _ _ (new_data hs hp) (.lst (.of upd_same) (r.mono (new_sub hs hp)))
theorem fin_lstO {H F : Hp} {d : D} {Q : VK} {p : Addr} {vs : List V} {xs : List D} (hs : Sub F H) (hp : H p = none) (r : Reps κ F vs xs) (hd : d = .list xs)
    (k : ∀ a H' F', Ext H F H' F' → H a = none → F' a = none → TopAt κ H' F' a d → Q (.ref a) H') : Q (.ref p) (upd H p (.lst vs)) := by
  subst hd
  exact k _ _ _ (Ext.laid hs hp).1 hp (Ext.laid (o := .lst vs) hs hp).2 ⟨vs, upd_same, r⟩
/-! ### lists that are read, known to the object or not -/
theorem lst_rd {pins : List (Addr × Obj)} {σ : L2.St} {H : Hp} {s : Shared} {l : Addr} {xs : List V} (I : Inv X pins σ H s) (h : Rd H l (.lst xs)) :
    xs.length ≤ sizeLine ∧ ∃ (its : List Value) (n : Nat), Vals xs its ∧ s.heap.get? l = some { cls := .type "list", data := .seq its.toArray n } := h.ok I.hok
def rCatR : R2 := fun x y H Q => ∃ l k xs zs, x = .ref l ∧ y = .ref k ∧ Rd H l (.lst xs) ∧ Rd H k (.lst zs) ∧ xs.length + zs.length ≤ sizeLine ∧ ∀ p, H p = none → Q (.ref p) (upd H p (.lst (xs ++ zs)))
theorem op_catR : OpR X (binaryOp .Add) rCatR := by
  intro pins s σ H x y v u Q I rx ry h
  obtain ⟨l, k, xs, zs, rfl, rfl, hl, hk, hz, q⟩ := h
  cases rx
  cases ry
  obtain ⟨_, its, n, r, e⟩ := lst_rd I hl
  obtain ⟨_, its2, n2, r2, e2⟩ := lst_rd I hk
  have c1 := r.length
  have c2 := r2.length
  have both : its.toArray ++ its2.toArray = (its ++ its2).toArray := by simp
  refine PySem.P.add_list e e2 ?_ (by simp only [List.size_toArray]; omega)
  rw [both]
  have J := I.lnew (t' := s.toks) (r.append r2) (by simp only [List.length_append]; omega)
  exact ⟨.ref _, _, J, rfl, q _ I.fresh⟩
/-! ### + - * // % ** and - -/
def aAdd : D → D → Option D
  | .int i, .int j => some (.int (i + j))
  | .str i, .str j => if i.length + j.length ≤ sizeLine then some (.str (i ++ j)) else none
  | .list xs, .list ys => if xs.length + ys.length ≤ sizeLine then some (.list (xs ++ ys)) else none
  | .tuple xs, .tuple ys => if xs.isEmpty = false ∧ xs.length + ys.length ≤ sizeLine then some (.tuple (xs ++ ys)) else none
  | _, _ => none
def rStrCat : R2 := fun x y H Q => ∃ i j, x = .str i ∧ y = .str j ∧ i.length + j.length ≤ sizeLine ∧ Q (.str (i ++ j)) H
def rAddAll (K : PySem.W.Frag) : R2 := fun x y H Q => rI0 (fun i j => .int (i + j)) x y H Q ∨ (rStrCat x y H Q ∨ (rCatR x y H Q ∨ rCatT K x y H Q))
theorem op_addAll : OpR X (binaryOp .Add) (rAddAll X.K) := opr_or op_add (opr_or op_add_str (opr_or op_catR op_catT))
theorem d_add : Op2 κ (rAddAll κ.K) aAdd := by
  intro H F v u x y d Q hs rx ry hf k
  have x0 : Ext H F H F := Ext.refl hs
  cases x with
  | int i =>
    cases y with
    | int j =>
      obtain rfl := Rep.isInt rx
      obtain rfl := Rep.isInt ry
      cases hf
      exact .inl ⟨i, j, rfl, rfl, k _ _ _ x0 (.int _)⟩
    | _ => cases hf
  | str i =>
    cases y with
    | str j =>
      obtain rfl := Rep.isStr rx
      obtain rfl := Rep.isStr ry
      simp only [aAdd] at hf
      split at hf
      · rename_i hz
        cases hf
        exact .inr (.inl ⟨i, j, rfl, rfl, hz, k _ _ _ x0 (.str _)⟩)
      · cases hf
    | _ => cases hf
  | list xs =>
    cases y with
    | list ys =>
      obtain ⟨l, vs, rfl, h1, r1⟩ := rx
      obtain ⟨m, ws, rfl, h2, r2⟩ := ry
      simp only [aAdd] at hf
      split at hf
      · rename_i hz
        cases hf
        exact .inr (.inr (.inl ⟨l, m, vs, ws, rfl, rfl, h1, h2, by rw [r1.length, r2.length]; exact hz, fun p hp => fin_lst hs hp (r1.append r2) rfl k⟩))
      · cases hf
    | _ => cases hf
  | tuple xs =>
    cases y with
    | tuple ys =>
      obtain ⟨l, vs, rfl, h1, r1⟩ := rx
      obtain ⟨m, ws, rfl, h2, r2⟩ := ry
      simp only [aAdd] at hf
      split at hf
      · rename_i hz
        cases hf
        have h1s := h1.sqT
        refine .inr (.inr (.inr ⟨l, m, vs, ws, rfl, rfl, h1s, h2.sqT, fun e => ?_, by rw [r1.length, r2.length]; exact hz.2, fun e => ?_, fun _ p hp => fin_tup hs hp (r1.append r2) rfl k⟩))
        · have := r1.nil_iff.mp e
          rw [this] at hz
          cases hz.1
        · subst e
          have e2 : ys = [] := r2.nil_iff.mp rfl
          subst e2
          rcases h1 with h1 | ⟨hc, h1⟩
          · refine k (.ref l) H (upd F l (.tup vs)) ⟨fun _ _ e => e, fun a u e => ?_, fun a e => ?_, fun _ _ e => .inl e, fun a u e => ?_⟩ (.tup (.inl upd_same) ?_)
            · by_cases z : a = l
              · subst z
                rcases hs a u e with q | ⟨q, od, q2⟩
                · rw [h1] at q; cases q; exact upd_same
                · rw [h1] at q2; cases q2
              · rw [upd_ne z]; exact e
            · by_cases z : a = l
              · subst z; exact .inr (.inr ⟨vs, h1⟩)
              · rw [upd_ne z] at e; exact .inl e
            · by_cases z : a = l
              · subst z; rw [upd_same] at e; cases e; exact .inl h1
              · rw [upd_ne z] at e; exact hs a u e
            · rw [List.append_nil]
              refine r1.mono (.of_eq fun a u e => ?_)
              by_cases z : a = l
              · subst z
                rcases hs a u e with q | ⟨q, od, q2⟩
                · rw [h1] at q; cases q; exact upd_same
                · rw [h1] at q2; cases q2
              · rw [upd_ne z]; exact e
          · rw [List.append_nil] at k
            exact k (.ref l) H F x0 (.tup (.inr ⟨hc, h1⟩) r1)
      · cases hf
    | _ => cases hf
  | _ => cases hf
/-- two lists alone: a new list -/
def aCat : D → D → Option D
  | .list xs, .list ys => if xs.length + ys.length ≤ sizeLine then some (.list (xs ++ ys)) else none
  | _, _ => none
theorem o_cat : Op2o κ rCatR aCat := by
  intro H F v u x y d Q hs rx ry hf k
  cases x with
  | list xs =>
    cases y with
    | list ys =>
      obtain ⟨l, vs, rfl, h1, r1⟩ := rx
      obtain ⟨m, ws, rfl, h2, r2⟩ := ry
      simp only [aCat] at hf
      split at hf
      · rename_i hz
        cases hf
        exact ⟨l, m, vs, ws, rfl, rfl, h1, h2, by rw [r1.length, r2.length]; exact hz, fun p hp => fin_lstO hs hp (r1.append r2) rfl k⟩
      · cases hf
    | _ => cases hf
  | _ => cases hf
def aSub : D → D → Option D
  | .int i, .int j => some (.int (i - j))
  | _, _ => none
theorem d_int {C : Int → Int → Prop} {g : Int → Int → Int} {f : D → D → Option D} (hf : ∀ x y d, f x y = some d → ∃ i j, x = .int i ∧ y = .int j ∧ C i j ∧ d = .int (g i j)) : Op2 κ (rI C fun i j => .int (g i j)) f := by
  intro H F v u x y d Q hs rx ry h k
  obtain ⟨i, j, rfl, rfl, c, rfl⟩ := hf x y d h
  obtain rfl := Rep.isInt rx
  obtain rfl := Rep.isInt ry
  exact ⟨i, j, rfl, rfl, c, k _ _ _ (Ext.refl hs) (.int _)⟩
theorem op_subC : OpR X (binaryOp .Sub) (rI (fun _ _ => True) fun i j => .int (i - j)) := opI fun _ _ _ _ _ _ _ _ q => sub_int q
theorem d_sub : Op2 κ (rI (fun _ _ => True) fun i j => .int (i - j)) aSub := d_int fun x y d h => by
  cases x <;> cases y <;> simp only [aSub] at h <;> cases h
  exact ⟨_, _, rfl, rfl, trivial, rfl⟩
/-- together below a hundred million bits -/
def mulFits (i j : Int) : Bool := decide (i.natAbs.log2 + j.natAbs.log2 < 100000000)
theorem mulFits_ok {i j : Int} (h : mulFits i j = true) : IntMulOk i j := by
  have h := of_decide_eq_true h
  have b : ∀ x : Int, Builtin.Int.intBits x ≤ x.natAbs.log2 + 1 := fun x => by
    unfold Builtin.Int.intBits
    split <;> omega
  have h1 := b i
  have h2 := b j
  have e : bitsLine = 134217728 := by decide
  unfold IntMulOk
  intro z
  rw [Bool.and_eq_true] at z
  have z2 := z.2
  unfold Builtin.Int.intTooBig at z2
  have z3 := of_decide_eq_true z2
  rw [e] at z3
  omega
def aMulI : D → D → Option D
  | .int i, .int j => if mulFits i j = true then some (.int (i * j)) else none
  | _, _ => none
theorem op_mulB : OpR X (binaryOp .Mult) (rI (fun i j => mulFits i j = true) fun i j => .int (i * j)) := opI fun _ _ _ _ _ _ _ c q => mul_int q (mulFits_ok c)
theorem d_mulI : Op2 κ (rI (fun i j => mulFits i j = true) fun i j => .int (i * j)) aMulI := d_int fun x y d h => by
  cases x <;> cases y <;> simp only [aMulI] at h <;> first | cases h | (split at h <;> cases h; exact ⟨_, _, rfl, rfl, by assumption, rfl⟩)
def divFits (j : Int) : Bool := decide (j ≠ 0 ∧ j.natAbs.log2 < 9000)
def aDiv : D → D → Option D
  | .int i, .int j => if divFits j = true then some (.int (i.fdiv j)) else none
  | _, _ => none
theorem op_divB : OpR X (binaryOp .FloorDiv) (rI (fun _ j => divFits j = true) fun i j => .int (i.fdiv j)) := opI fun _ _ _ _ _ _ _ c q => floordiv_int (of_decide_eq_true c).1 q (.inl (PyProof.noPylong_of_log2 (of_decide_eq_true c).2))
theorem d_div : Op2 κ (rI (fun _ j => divFits j = true) fun i j => .int (i.fdiv j)) aDiv := d_int fun x y d h => by
  cases x <;> cases y <;> simp only [aDiv] at h <;> first | cases h | (split at h <;> cases h; exact ⟨_, _, rfl, rfl, by assumption, rfl⟩)
def aMod : D → D → Option D
  | .int i, .int j => if j = 0 then none else some (.int (i.fmod j))
  | _, _ => none
theorem op_modB : OpR X (binaryOp .Mod) (rI (fun _ j => j ≠ 0) fun i j => .int (i.fmod j)) := opI fun _ _ _ _ _ _ _ hc q => mod_int' hc q
theorem d_mod : Op2 κ (rI (fun _ j => j ≠ 0) fun i j => .int (i.fmod j)) aMod := d_int fun x y d h => by
  cases x <;> cases y <;> simp only [aMod] at h <;> first | cases h | (split at h <;> cases h; exact ⟨_, _, rfl, rfl, by assumption, rfl⟩)
def aPow : D → D → Option D
  | .int i, .int j => if 0 ≤ j ∧ j ≤ 1000000 ∧ i.natAbs < 2 ^ 64 then some (.int (i ^ j.toNat)) else none
  | _, _ => none
theorem d_pow : Op2 κ (rI CPow fun i j => .int (i ^ j.toNat)) aPow := d_int fun x y d h => by
  cases x <;> cases y <;> simp only [aPow] at h <;> first | cases h | (split at h <;> cases h; exact ⟨_, _, rfl, rfl, by assumption, rfl⟩)
def aNeg : D → Option D
  | .int i => some (.int (-i))
  | _ => none
theorem d_neg : Op1 κ (rU fun i => .int (-i)) aNeg := by
  intro H F v x d Q hs rx h k
  cases x <;> simp only [aNeg] at h <;> cases h
  obtain rfl := Rep.isInt rx
  exact ⟨_, rfl, k _ _ _ (Ext.refl hs) (.int _)⟩
/-! ### comparisons -/
theorem d_cmpI {g : Int → Int → Bool} {f : D → D → Option D} (hf : ∀ x y d, f x y = some d → ∃ i j, x = .int i ∧ y = .int j ∧ d = .bool (g i j)) : Op2 κ (rI0 fun i j => .bl (g i j)) f := by
  intro H F v u x y d Q hs rx ry h k
  obtain ⟨i, j, rfl, rfl, rfl⟩ := hf x y d h
  obtain rfl := Rep.isInt rx
  obtain rfl := Rep.isInt ry
  exact ⟨i, j, rfl, rfl, k _ _ _ (Ext.refl hs) (.bl _)⟩
def aLtI : D → D → Option D
  | .int i, .int j => some (.bool (decide (i < j)))
  | _, _ => none
def aLeI : D → D → Option D
  | .int i, .int j => some (.bool (decide (i ≤ j)))
  | _, _ => none
def aGtI : D → D → Option D
  | .int i, .int j => some (.bool (decide (j < i)))
  | _, _ => none
def aGeI : D → D → Option D
  | .int i, .int j => some (.bool (decide (j ≤ i)))
  | _, _ => none
theorem d_ltI : Op2 κ (rI0 fun i j => .bl (decide (i < j))) aLtI := d_cmpI fun x y d h => by
  cases x <;> cases y <;> simp only [aLtI] at h <;> cases h; exact ⟨_, _, rfl, rfl, rfl⟩
theorem d_leI : Op2 κ (rI0 fun i j => .bl (decide (i ≤ j))) aLeI := d_cmpI fun x y d h => by
  cases x <;> cases y <;> simp only [aLeI] at h <;> cases h; exact ⟨_, _, rfl, rfl, rfl⟩
theorem d_gtI : Op2 κ (rI0 fun i j => .bl (decide (j < i))) aGtI := d_cmpI fun x y d h => by
  cases x <;> cases y <;> simp only [aGtI] at h <;> cases h; exact ⟨_, _, rfl, rfl, rfl⟩
theorem d_geI : Op2 κ (rI0 fun i j => .bl (decide (j ≤ i))) aGeI := d_cmpI fun x y d h => by
  cases x <;> cases y <;> simp only [aGeI] at h <;> cases h; exact ⟨_, _, rfl, rfl, rfl⟩
/-! == and != of data at any depth -/
mutual
theorem Rep.dp {H : Hp} : ∀ (d : D) (v : V), Rep κ H v d → d.canLay0 = true → Dp κ.K H v d
  | .none, _, .non, _ => .non
  | .bool _, _, .bl _, _ => .bl _
  | .int _, _, .int _, _ => .int _
  | .str _, _, .str _, _ => .str _
  | .tuple xs, _, .tup h r, c => .tup h.sqT (Reps.dp xs _ r (by simpa only [PyData.canLay0] using c))
  | .list xs, _, .lst h r, c => .lst (.inl h) (Reps.dp xs _ r (by simpa only [PyData.canLay0] using c))
  | .dict _, _, .dK _ _, c => by simp only [PyData.canLay0] at c; cases c
  | .dict _, _, .dT _ _, c => by simp only [PyData.canLay0] at c; cases c
  | .dict _, _, .scr _ _, c => by simp only [PyData.canLay0] at c; cases c
theorem Reps.dp {H : Hp} : ∀ (ds : List D) (vs : List V), Reps κ H vs ds → PyData.canLayAll0 ds = true → DpAll κ.K H vs ds
  | [], _, .nil, _ => .nil
  | d :: ds, _, .cons r q, c => by
    simp only [PyData.canLayAll0, Bool.and_eq_true] at c
    exact .cons (Rep.dp d _ r c.1) (Reps.dp ds _ q c.2)
end
def aEq (x y : D) : Option D := if SeqAt.shaped x = true ∧ SeqAt.shaped y = true then some (.bool (PyData.eqv x y)) else none
def aNe (x y : D) : Option D := if SeqAt.shaped x = true ∧ SeqAt.shaped y = true then some (.bool (!PyData.eqv x y)) else none
theorem d_eq : Op2 κ (rEqD κ.K) aEq := by
  intro H F v u x y d Q hs rx ry h k
  unfold aEq at h
  split at h
  · rename_i c
    cases h
    exact ⟨x, y, Rep.dp x v (rx.rep hs) (SeqAt.canLay_of_shaped c.1), Rep.dp y u (ry.rep hs) (SeqAt.canLay_of_shaped c.2), c.1, c.2, k _ _ _ (Ext.refl hs) (.bl _)⟩
  · cases h
theorem d_ne : Op2 κ (rNeD κ.K) aNe := by
  intro H F v u x y d Q hs rx ry h k
  unfold aNe at h
  split at h
  · rename_i c
    cases h
    exact ⟨x, y, Rep.dp x v (rx.rep hs) (SeqAt.canLay_of_shaped c.1), Rep.dp y u (ry.rep hs) (SeqAt.canLay_of_shaped c.2), c.1, c.2, k _ _ _ (Ext.refl hs) (.bl _)⟩
  · cases h
/-- is, is not: None or a flag on the right -/
def isNoneD : D → Bool
  | .none => true
  | _ => false
def isFlagD (b : Bool) : D → Bool
  | .bool c => c == b
  | _ => false
def aIs (x : D) : D → Option D
  | .none => some (.bool (isNoneD x))
  | .bool b => some (.bool (isFlagD b x))
  | _ => none
def aIsNot (x : D) : D → Option D
  | .none => some (.bool (!isNoneD x))
  | .bool b => some (.bool (!isFlagD b x))
  | _ => none
def rIsK0 : R2 := fun x y H Q => (y = .non ∧ Q (.bl (decide (x = .non))) H) ∨ ∃ b, y = .bl b ∧ Q (.bl (decide (x = .bl b))) H
def rIsNotK0 : R2 := fun x y H Q => (y = .non ∧ Q (.bl (!decide (x = .non))) H) ∨ ∃ b, y = .bl b ∧ Q (.bl (!decide (x = .bl b))) H
theorem is_flag {M : Model} {A : Around} {E : Value → Shared → Prop} {s : Shared} {Q : Value → Shared → Prop} {x : V} {v : Value} {c : Bool} (r : RelV x v) (h : Q (.bool (decide (x = .bl c))) s) : wpAny M A (compareOp .Is v (.bool c)) Q E s := by
  cases x with
  | non => cases r; exact wpAny_pure h
  | bl b => cases r; exact is_bool (by cases b <;> cases c <;> exact h)
  | int _ => obtain ⟨t, rfl⟩ := r; exact wpAny_pure h
  | str _ => obtain ⟨t, rfl⟩ := r; exact wpAny_pure h
  | byt _ => obtain ⟨t, rfl⟩ := r; exact wpAny_pure h
  | flt _ => obtain ⟨t, rfl⟩ := r; exact wpAny_pure h
  | ref _ => cases r; exact wpAny_pure h
  | ty _ => cases r; exact wpAny_pure h
theorem isnot_flag {M : Model} {A : Around} {E : Value → Shared → Prop} {s : Shared} {Q : Value → Shared → Prop} {x : V} {v : Value} {c : Bool} (r : RelV x v) (h : Q (.bool (!decide (x = .bl c))) s) : wpAny M A (compareOp .IsNot v (.bool c)) Q E s := by
  cases x with
  | non => cases r; exact wpAny_pure h
  | bl b => cases r; exact isnot_bool (by cases b <;> cases c <;> exact h)
  | int _ => obtain ⟨t, rfl⟩ := r; exact wpAny_pure h
  | str _ => obtain ⟨t, rfl⟩ := r; exact wpAny_pure h
  | byt _ => obtain ⟨t, rfl⟩ := r; exact wpAny_pure h
  | flt _ => obtain ⟨t, rfl⟩ := r; exact wpAny_pure h
  | ref _ => cases r; exact wpAny_pure h
  | ty _ => cases r; exact wpAny_pure h
theorem op_isK0 : OpR X (compareOp .Is) rIsK0 := by
  refine opr_or op_isN ?_
  intro pins s σ H x y v u Q I rx ry h
  obtain ⟨b, rfl, q⟩ := h
  cases ry
  exact is_flag rx ⟨.bl _, H, I, rfl, q⟩
theorem op_isNotK0 : OpR X (compareOp .IsNot) rIsNotK0 := by
  refine opr_or op_notN ?_
  intro pins s σ H x y v u Q I rx ry h
  obtain ⟨b, rfl, q⟩ := h
  cases ry
  exact isnot_flag rx ⟨.bl _, H, I, rfl, q⟩
theorem rep_non {H F : Hp} {v : V} {x : D} (r : RepP κ H F v x) : decide (v = .non) = isNoneD x := by
  cases x with
  | none => obtain rfl := Rep.isNone r; rfl
  | bool b => obtain rfl := Rep.isBool r; rfl
  | int i => obtain rfl := Rep.isInt r; rfl
  | str s => obtain rfl := Rep.isStr r; rfl
  | list xs => obtain ⟨_, _, rfl, _⟩ := r; rfl
  | tuple xs => obtain ⟨_, _, rfl, _⟩ := r; rfl
  | dict xs => rcases r with ⟨_, _, rfl, _⟩ | ⟨_, _, _, rfl, _⟩ <;> rfl
theorem rep_flag {H F : Hp} {v : V} {x : D} {b : Bool} (r : RepP κ H F v x) : decide (v = .bl b) = isFlagD b x := by
  cases x with
  | none => obtain rfl := Rep.isNone r; rfl
  | bool c => obtain rfl := Rep.isBool r; cases b <;> cases c <;> rfl
  | int i => obtain rfl := Rep.isInt r; rfl
  | str s => obtain rfl := Rep.isStr r; rfl
  | list xs => obtain ⟨_, _, rfl, _⟩ := r; rfl
  | tuple xs => obtain ⟨_, _, rfl, _⟩ := r; rfl
  | dict xs => rcases r with ⟨_, _, rfl, _⟩ | ⟨_, _, _, rfl, _⟩ <;> rfl
theorem d_is : Op2 κ rIsK0 aIs := by
  intro H F v u x y d Q hs rx ry h k
  cases y with
  | none =>
    obtain rfl := Rep.isNone ry
    cases h
    exact .inl ⟨rfl, by rw [rep_non rx]; exact k _ _ _ (Ext.refl hs) (.bl _)⟩
  | bool b =>
    obtain rfl := Rep.isBool ry
    cases h
    exact .inr ⟨b, rfl, by rw [rep_flag rx]; exact k _ _ _ (Ext.refl hs) (.bl _)⟩
  | _ => cases h
theorem d_isNot : Op2 κ rIsNotK0 aIsNot := by
  intro H F v u x y d Q hs rx ry h k
  cases y with
  | none =>
    obtain rfl := Rep.isNone ry
    cases h
    exact .inl ⟨rfl, by rw [rep_non rx]; exact k _ _ _ (Ext.refl hs) (.bl _)⟩
  | bool b =>
    obtain rfl := Rep.isBool ry
    cases h
    exact .inr ⟨b, rfl, by rw [rep_flag rx]; exact k _ _ _ (Ext.refl hs) (.bl _)⟩
  | _ => cases h
/-! ### items -/
def aIx : D → D → Option D
  | .list xs, .int i => atI xs i
  | .tuple xs, .int i => atI xs i
  | .str s, .int i => if s.length ≤ sizeLine then (atI s.cps.toList i).map fun c => .str ⟨#[c]⟩ else none
  | .dict [(.none, .list xs)], .int i => atI xs i
  | _, _ => none
theorem atI_rep {F : Hp} {vs : List V} {xs : List D} {i : Int} {d : D} (r : Reps κ F vs xs) (h : atI xs i = some d) : ∃ v, atI vs i = some v ∧ Rep κ F v d := by
  unfold atI at h ⊢
  rw [r.length]
  cases e : ixN xs.length i with
  | none => rw [e] at h; cases h
  | some j =>
    rw [e, Option.bind_some] at h
    exact r.get h
theorem d_ix : Op2 κ (rIx κ.K) aIx := by
  intro H F v u x y d Q hs rx ry h k
  unfold aIx at h
  split at h
  · obtain ⟨l, vs, rfl, h1, r1⟩ := rx
    obtain rfl := Rep.isInt ry
    obtain ⟨w, hw, rw'⟩ := atI_rep r1 h
    exact .inl ⟨l, vs, _, w, rfl, rfl, .inl h1, hw, k _ _ _ (Ext.refl hs) rw'⟩
  · obtain ⟨l, vs, rfl, h1, r1⟩ := rx
    obtain rfl := Rep.isInt ry
    obtain ⟨w, hw, rw'⟩ := atI_rep r1 h
    exact .inr (.inl ⟨l, vs, _, w, rfl, rfl, h1.sqT, hw, k _ _ _ (Ext.refl hs) rw'⟩)
  · rename_i s i
    obtain rfl := Rep.isStr rx
    obtain rfl := Rep.isInt ry
    split at h
    · rename_i hz
      cases e : atI s.cps.toList i with
      | none => rw [e] at h; cases h
      | some c =>
        rw [e] at h
        cases h
        exact .inr (.inr ⟨s, i, c, rfl, rfl, hz, e, k _ _ _ (Ext.refl hs) (.str _)⟩)
    · cases h
  · obtain rfl := Rep.isInt ry
    rcases rx with ⟨_, _, rfl, _, q⟩ | ⟨l, vs, xs, rfl, e, h1, r1⟩
    · exact (q.noScr).elim
    · cases e
      obtain ⟨w, hw, rw'⟩ := atI_rep r1 h
      exact .inl ⟨l, vs, _, w, rfl, rfl, h1, hw, k _ _ _ (Ext.refl hs) rw'⟩
  · cases h
/-! ### displays -/
def aTup (ds : List D) : Option D := if ds.length ≤ sizeLine then some (.tuple ds) else none
def aLst (ds : List D) : Option D := if ds.length ≤ sizeLine then some (.list ds) else none
/-- every operand is data of its own right -/
def allE (ms : List E) : List Opd := ms.map .e
theorem runE_reps {σ : L2.St} {F : Hp} : ∀ {ms : List E} {env env' : Env} {ts : List Itm}, runOpds (allE ms) env = some (ts, env') → ∃ ds, ts = ds.map .d ∧ getAll env' ts = some ds ∧ ∀ vs, Paired (ItmOk κ σ F) vs ts → Reps κ F vs ds
  | [], env, env', ts, h => by
    cases h
    exact ⟨[], rfl, rfl, fun vs q => by cases q; exact .nil⟩
  | m :: ms, env, env', ts, h => by
    cases e1 : m env with
    | none => simp only [allE, List.map_cons, runOpds, runOpd, e1] at h; cases h
    | some r =>
      cases e2 : runOpds (allE ms) r.2 with
      | none => simp only [allE, List.map_cons, runOpds, runOpd, e1, Option.map_some, Option.bind_some] at h; unfold allE at e2; rw [e2] at h; cases h
      | some b =>
        simp only [allE, List.map_cons, runOpds, runOpd, e1, Option.map_some, Option.bind_some] at h
        have e2' := e2
        unfold allE at e2'
        rw [e2'] at h
        cases h
        obtain ⟨ds, h1, h2, h3⟩ := runE_reps (σ := σ) (F := F) e2
        refine ⟨r.1 :: ds, by rw [h1]; rfl, ?_, fun vs q => ?_⟩
        · simp only [getAll, Itm.get, Option.bind_some, h2, Option.map_some]
        · cases q with
          | cons q1 q2 => exact .cons q1 (h3 _ q2)
theorem ed_tup {es : List Expr} {ms : List E} {j : Nat} (h : PA X es (tOs κ (allE ms))) : PE X (.Tuple es j pos) (tE κ (eOp aTup (allE ms))) := pe_of (pe_tup h) fun σ H Q q => by
  obtain ⟨env, F, ad, d, env', I, hm, k⟩ := q
  obtain ⟨ts, ds, h1, h2, h3⟩ := eOp_some hm
  refine ⟨env, F, ad, ts, env', I, h1, fun vs H1 F1 ad1 I1 g1 r1 => ?_⟩
  obtain ⟨ds', q1, q2, q3⟩ := runE_reps (κ := κ) (σ := σ) (F := F1) h1
  rw [h2] at q2
  cases q2
  have rr := q3 vs r1
  unfold aTup at h3
  split at h3
  · rename_i hz
    cases h3
    refine ⟨by rw [rr.length]; exact hz, fun p hp => fin_tup I1.sub hp rr rfl fun w H2 F2 x r => k w H2 F2 ad1 (I1.ext x) (g1.trans (Go.ext x)) r⟩
  · cases h3
theorem eo_lst {es : List Expr} {ms : List E} (h : PA X es (tOs κ (allE ms))) : PE X (.List es pos) (tO κ (eOp aLst (allE ms))) := pe_of (pe_lst h) fun σ H Q q => by
  obtain ⟨env, F, ad, d, env', I, hm, k⟩ := q
  obtain ⟨ts, ds, h1, h2, h3⟩ := eOp_some hm
  refine ⟨env, F, ad, ts, env', I, h1, fun vs H1 F1 ad1 I1 g1 r1 => ?_⟩
  obtain ⟨ds', q1, q2, q3⟩ := runE_reps (κ := κ) (σ := σ) (F := F1) h1
  rw [h2] at q2
  cases q2
  have rr := q3 vs r1
  unfold aLst at h3
  split at h3
  · rename_i hz
    cases h3
    refine ⟨by rw [rr.length]; exact hz, fun p hp => fin_lstO I1.sub hp rr rfl fun a H2 F2 x ha hf ht => k a H2 F2 ad1 (I1.ext x) (g1.trans (Go.ext x)) ?_ hf (fun kd q => I1.fresh ha kd q) ht⟩
    cases e : H a with
    | none => rfl
    | some o => exact absurd ha (g1.pres a (by rw [e]; simp))
  · cases h3
end DL
/-! The data layer, 7: calls of built-in functions; slices; stores. -/
namespace DL
open PySem L2 PyProof.Rows
variable {κ : Kx} {X : Cx} {e a b : Expr} {pos : Pos}
/-! ### isinstance -/
def tyNm : D → String
  | .none => "NoneType"
  | .bool _ => "bool"
  | .int _ => "int"
  | .str _ => "str"
  | .list _ => "list"
  | .tuple _ => "tuple"
  | .dict _ => "dict"
def isiD (T : String) (d : D) : Bool := tyNm d == T || (T == "int" && tyNm d == "bool")
def isiTys : List String := ["int", "str", "bool", "list", "tuple", "dict"]
theorem isi_kit : ((["NoneType", "bool", "int", "str", "list", "tuple", "dict"] : List String).all fun a => isiTys.all fun b => decide (kitB a b = some (a == b || (b == "int" && a == "bool")))) = true := by decide +kernel
theorem isi_one {K : PySem.W.Frag} {T : String} (d : D) (h : T ∈ isiTys) : PySem.W.kitOne K (.type (tyNm d)) (.type T) = some (isiD T d) := by
  have q := List.all_eq_true.mp isi_kit (tyNm d) (by cases d <;> simp [tyNm])
  exact kit_ty (of_decide_eq_true (List.all_eq_true.mp q T h))
def rIsiD (K : PySem.W.Frag) : List V → Hp → VK → Prop := fun xs H Q => rIsi K xs H Q ∨ ∃ (x : V) (T : String) (p : Addr) (o : Obj) (kvs : List (List Key × V)) (r : Bool), xs = [x, .ty T] ∧ x = .ref p ∧ H p = some (.frz o (.dT kvs)) ∧ PySem.W.kitOne K (.type "dict") (.type T) = some r ∧ Q (.bl r) H
theorem call_isiD : CallR X (.builtin "isinstance") (rIsiD X.K) := by
  intro pins s σ H xs us Q I r h
  rcases h with h | ⟨x, T, p, o, kvs, b, rfl, rfl, hp, e, q⟩
  · exact call_isi pins s σ H xs us Q I r h
  · obtain ⟨u1, u2, rfl, r1, r2⟩ := vals2 r
    cases r1
    cases r2
    obtain ⟨_, _, _, _, _, ob, es, ep, h1, h2, _⟩ := (show ObjOk X.prog X.w H s.heap p (.frz o (.dT kvs)) from I.hok p _ hp)
    exact PySem.W.kia_one PySem.W.kitx_dict I.kIn ⟨ob, h1, h2.1⟩ e (fun z => nomatch z) fun tk => ⟨.bl b, H, I.tok tk, rfl, q⟩
/-- is it the script? -/
def scrD : D → Bool
  | .dict [(.none, _)] => true
  | _ => false
theorem isi_of {H F : Hp} {v : V} {d : D} {T : String} {Q : VK} (h : RepP κ H F v d) (hT : T ∈ isiTys) (hns : scrD d = false) (q : Q (.bl (isiD T d)) H) : rIsiD κ.K [v, .ty T] H Q := by
  have z := isi_one (K := κ.K) d hT
  have go : ∀ t, TyX κ.K H v t → t = .type (tyNm d) → rIsiD κ.K [v, .ty T] H Q := fun t ty e => .inl ⟨v, .ty T, t, .type T, _, rfl, .ty T, ty, by rw [e]; exact z, q⟩
  cases d with
  | none => obtain rfl := Rep.isNone h; exact go _ (.base .non) rfl
  | bool c => obtain rfl := Rep.isBool h; exact go _ (.base (.bl c)) rfl
  | int i => obtain rfl := Rep.isInt h; exact go _ (.base (.int i)) rfl
  | str s => obtain rfl := Rep.isStr h; exact go _ (.base (.str s)) rfl
  | list xs =>
    obtain ⟨p, vs, rfl, h1, _⟩ := h
    rcases h1 with h1 | ⟨o, h1⟩
    · exact go _ (.base (.lst h1)) rfl
    · exact go _ (.base (.frz h1)) rfl
  | tuple xs =>
    obtain ⟨p, vs, rfl, h1, _⟩ := h
    rcases h1 with h1 | ⟨hc, h1⟩
    · exact go _ (.base (.tup h1)) rfl
    · rcases h1 with (h1 | ⟨o, h1⟩) | ⟨o, its, n, hk, hcl, _⟩
      · cases h1
      · cases h1
      · exact go _ (.kTuple hk hcl) rfl
  | dict kvs =>
    rcases h with ⟨p, o, rfl, h1, h2⟩ | ⟨_, _, _, rfl, rfl, _⟩
    rotate_left
    · cases hns
    rcases h2 with ⟨ps, rfl, _⟩ | ⟨ps, rfl, _⟩
    · rcases h1 with h1 | ⟨ob, h1⟩
      · exact go _ (.base (.dK h1)) rfl
      · exact go _ (.fDict h1) rfl
    · rcases h1 with h1 | ⟨ob, h1⟩
      · exact go _ (.base (.dT h1)) rfl
      · exact .inr ⟨_, T, p, ob, ps, _, rfl, rfl, h1, z, q⟩
def aIsi (T : String) : D → Option D := fun d => if T ∈ isiTys ∧ scrD d = false then some (.bool (isiD T d)) else none
theorem ed_isi {T : String} {o : Opd} {p : Pos} (hκ : κ.K = X.K) (hg : Gl X "isinstance") (hm : X.mg "isinstance" = none) (ha : PE X a (tOpd κ o)) (hb : PE X b (tC (.ty T))) (hv : bootBuiltins ("isinstance" : Str) = some (.builtin "isinstance") := by decide +kernel)
    (hs1 : starEach [b] X.env = (false, eval b X.env) :: starEach [] X.env := by rfl) (he : starEach (a :: [b]) X.env = (false, eval a X.env) :: starEach [b] X.env := by rfl) (hpl : (backTo pos (starEach [b] X.env)).any (·.1) = false := by rfl) :
    PE X (.Call (.Name "isinstance" p) [a, b] [] pos) (tE κ (eOp1 (aIsi T) o)) :=
  pe_of (pe_callB call_isiD hg hm hv (pa_cons ha (pa_cons hb pa_nil hs1) he) (by decide) (by decide) he hpl) fun σ H Q q => by
    obtain ⟨env, F, ad, d, env', I, hm, k⟩ := q
    obtain ⟨ts, ds, h1, h2, h3⟩ := eOp_some hm
    have r1 := h1
    cases e1 : runOpd o env with
    | none => simp only [runOpds, e1] at h1; cases h1
    | some x =>
      simp only [runOpds, e1, Option.bind_some] at h1
      cases h1
      refine ⟨env, F, ad, x.1, x.2, I, e1, fun v H1 F1 ad1 I1 g1 rr => ?_⟩
      cases e2 : x.1.get x.2 with
      | none => simp only [getAll, e2] at h2; cases h2
      | some y =>
        simp only [getAll, e2, Option.bind_some] at h2
        cases h2
        simp only [f1, aIsi] at h3
        split at h3
        · rename_i hT
          cases h3
          exact hκ ▸ isi_of (rr.top I1 e2) hT.1 hT.2 (k _ H1 F1 ad1 I1 g1 (.bl _))
        · cases h3
/-! ### len, int, abs, gcd, tuple, list -/
theorem cr_or {f : Value} {r r' : List V → Hp → VK → Prop} (h : CallR X f r) (h' : CallR X f r') : CallR X f (fun xs H Q => r xs H Q ∨ r' xs H Q) := fun pins s σ H xs us Q I rx q => by
  rcases q with q | q
  · exact h pins s σ H xs us Q I rx q
  · exact h' pins s σ H xs us Q I rx q
def aLen : List D → Option D
  | [.list xs] => some (.int (xs.length : Int))
  | [.tuple xs] => some (.int (xs.length : Int))
  | [.str s] => if s.length ≤ sizeLine then some (.int (s.length : Int)) else none
  | [.dict [(.none, .list xs)]] => some (.int (xs.length : Int))
  | [.dict kvs] => if scrD (.dict kvs) = true then none else some (.int (kvs.length : Int))
  | _ => none
def rLenSeq (K : PySem.W.Frag) : List V → Hp → VK → Prop := fun xs H Q => ∃ p ys, xs = [.ref p] ∧ (SqL K H p ys ∨ SqT K H p ys) ∧ Q (.int ys.length) H
def rLenStr : List V → Hp → VK → Prop := fun xs H Q => ∃ z, xs = [.str z] ∧ z.length ≤ sizeLine ∧ Q (.int z.length) H
/-- a dict of either kind -/
def IsDic (o : HO) (n : Nat) : Prop := (∃ ps, o = .dK ps ∧ ps.length = n) ∨ ∃ ps, o = .dT ps ∧ ps.length = n
theorem RepKs.length {F : Hp} : ∀ {ps : List (Key × V)} {kvs : List (D × D)}, RepKs κ F ps kvs → ps.length = kvs.length
  | _, _, .nil => rfl
  | _, _, .cons _ q => by rw [List.length_cons, List.length_cons, q.length]
theorem RepTs.length {F : Hp} : ∀ {ps : List (List Key × V)} {kvs : List (D × D)}, RepTs κ F ps kvs → ps.length = kvs.length
  | _, _, .nil => rfl
  | _, _, .cons _ q => by rw [List.length_cons, List.length_cons, q.length]
theorem DicAt.isDic {F : Hp} {o : HO} {kvs : List (D × D)} (h : DicAt κ F o kvs) : IsDic o kvs.length := by
  rcases h with ⟨ps, e, q⟩ | ⟨ps, e, q⟩
  · exact .inl ⟨ps, e, q.length⟩
  · exact .inr ⟨ps, e, q.length⟩
def rLenD : List V → Hp → VK → Prop := fun xs H Q => ∃ p o n, xs = [.ref p] ∧ Rd H p o ∧ IsDic o n ∧ Q (.int (n : Int)) H
theorem call_lenD : CallR X (.builtin "len") rLenD := by
  intro pins s σ H xs us Q I r h
  obtain ⟨p, o, n, rfl, hp, hd, q⟩ := h
  obtain ⟨u, rfl, rx⟩ := vals1 r
  cases rx
  rcases hd with ⟨ps, rfl, rfl⟩ | ⟨ps, rfl, rfl⟩
  · exact d_len I hp fun t s' I' => ⟨.int _, H, I', ⟨_, rfl⟩, q⟩
  · obtain ⟨z, hm, ys, rel, dd⟩ := dt_rd I.hok hp
    have hl : ps.length = ys.length := Paired.length rel
    have hz := sizeLine_eq
    refine call_len_dictH hm dd (by omega) ?_
    rw [← hl]
    exact ⟨.int _, H, I.tok _, ⟨_, rfl⟩, q⟩
def rLenAll (K : PySem.W.Frag) : List V → Hp → VK → Prop := fun xs H Q => rLenSeq K xs H Q ∨ (rLenStr xs H Q ∨ rLenD xs H Q)
theorem call_lenAll : CallR X (.builtin "len") (rLenAll X.K) := cr_or call_len_seq (cr_or call_len_str call_lenD)
theorem n_len : OpN κ (rLenAll κ.K) aLen := by
  intro H F vs ds d Q hs hp hf k
  have x0 : Ext H F H F := Ext.refl hs
  unfold aLen at hf
  split at hf
  · obtain ⟨v, rfl, p, ws, rfl, h1, r1⟩ := Paired.one' hp
    cases hf
    exact .inl ⟨p, ws, rfl, .inl (.inl h1), by rw [r1.length]; exact k _ _ _ x0 (.int _)⟩
  · obtain ⟨v, rfl, p, ws, rfl, h1, r1⟩ := Paired.one' hp
    cases hf
    exact .inl ⟨p, ws, rfl, .inr h1.sqT, by rw [r1.length]; exact k _ _ _ x0 (.int _)⟩
  · obtain ⟨v, rfl, r1⟩ := Paired.one' hp
    obtain rfl := Rep.isStr r1
    split at hf
    · rename_i hz
      cases hf
      exact .inr (.inl ⟨_, rfl, hz, k _ _ _ x0 (.int _)⟩)
    · cases hf
  · obtain ⟨v, rfl, r⟩ := Paired.one' hp
    rcases r with ⟨_, _, rfl, _, q⟩ | ⟨p, ws, xs, rfl, e, h1, r1⟩
    · exact (q.noScr).elim
    · cases e
      cases hf
      exact .inl ⟨p, ws, rfl, .inl h1, by rw [r1.length]; exact k _ _ _ x0 (.int _)⟩
  · obtain ⟨v, rfl, r⟩ := Paired.one' hp
    rcases r with ⟨p, o, rfl, h1, r1⟩ | ⟨p, ws, xs, rfl, rfl, h1, r1⟩
    · split at hf
      · cases hf
      · cases hf
        exact .inr (.inr ⟨p, o, _, rfl, h1, r1.isDic, k _ _ _ x0 (.int _)⟩)
    · cases hf
  · cases hf
def aInt : List D → Option D
  | [.int i] => some (.int i)
  | [.bool b] => some (.int (if b then 1 else 0))
  | _ => none
def rInt1 : List V → Hp → VK → Prop := fun xs H Q => (∃ i, xs = [.int i] ∧ Q (.int i) H) ∨ ∃ k, xs = [.bl k] ∧ Q (.int (if k then 1 else 0)) H
theorem call_intB : CallR X (.type "int") rInt1 := call_int1
theorem n_int : OpN κ rInt1 aInt := by
  intro H F vs ds d Q hs hp hf k
  unfold aInt at hf
  split at hf
  · obtain ⟨v, rfl, r1⟩ := Paired.one' hp
    obtain rfl := Rep.isInt r1
    cases hf
    exact .inl ⟨_, rfl, k _ _ _ (Ext.refl hs) (.int _)⟩
  · obtain ⟨v, rfl, r1⟩ := Paired.one' hp
    obtain rfl := Rep.isBool r1
    cases hf
    exact .inr ⟨_, rfl, k _ _ _ (Ext.refl hs) (.int _)⟩
  · cases hf
def aAbs : List D → Option D
  | [.int i] => some (.int (if i < 0 then -i else i))
  | _ => none
def rAbs1 : List V → Hp → VK → Prop := fun xs H Q => ∃ i, xs = [.int i] ∧ Q (.int (if i < 0 then -i else i)) H
theorem call_absB : CallR X (.builtin "abs") rAbs1 := call_abs
theorem n_abs : OpN κ rAbs1 aAbs := by
  intro H F vs ds d Q hs hp hf k
  unfold aAbs at hf
  split at hf
  · obtain ⟨v, rfl, r1⟩ := Paired.one' hp
    obtain rfl := Rep.isInt r1
    cases hf
    exact ⟨_, rfl, k _ _ _ (Ext.refl hs) (.int _)⟩
  · cases hf
def aGcd : List D → Option D
  | [.int i, .int j] => some (.int ((Nat.gcd i.natAbs j.natAbs : Nat) : Int))
  | _ => none
theorem n_gcd : OpN κ rGcd aGcd := by
  intro H F vs ds d Q hs hp hf k
  unfold aGcd at hf
  split at hf
  · obtain ⟨v, w, rfl, r1, r2⟩ := Paired.two' hp
    obtain rfl := Rep.isInt r1
    obtain rfl := Rep.isInt r2
    cases hf
    exact ⟨_, _, rfl, k _ _ _ (Ext.refl hs) (.int _)⟩
  · cases hf
def aTuple : List D → Option D
  | [.list xs] => some (.tuple xs)
  | [.tuple xs] => some (.tuple xs)
  | _ => none
def rTupleOf (K : PySem.W.Frag) : List V → Hp → VK → Prop := fun xs H Q => ∃ p ys, xs = [.ref p] ∧ ((SqL K H p ys ∧ ∀ l, H l = none → Q (.ref l) (upd H l (.tup ys))) ∨ (SqT K H p ys ∧ Q (.ref p) H))
theorem call_tupleB : CallR X (.type "tuple") (rTupleOf X.K) := call_tuple_of
/-- what is within a tuple of H is data already; the tuple itself becomes data -/
theorem tup_data {H F : Hp} {p : Addr} {vs : List V} {xs : List D} (hs : Sub F H) (h : TupAt κ H p vs) (r : Reps κ F vs xs) : ∃ F', Ext H F H F' ∧ Rep κ F' (.ref p) (.tuple xs) := by
  rcases h with h | h
  · have mono : ∀ a u, F a = some u → upd F p (.tup vs) a = some u := fun a u e => by
      by_cases z : a = p
      · subst z
        rcases hs a u e with q | ⟨m, od, q⟩
        · rw [h] at q; cases q; exact upd_same
        · rw [h] at q; cases q
      · rw [upd_ne z]; exact e
    refine ⟨upd F p (.tup vs), ⟨fun _ _ e => e, mono, fun a e => ?_, fun _ _ e => .inl e, fun a u e => ?_⟩, .tup (.inl upd_same) (r.mono (.of_eq mono))⟩
    · by_cases z : a = p
      · subst z; exact .inr (.inr ⟨vs, h⟩)
      · rw [upd_ne z] at e; exact .inl e
    · by_cases z : a = p
      · subst z; rw [upd_same] at e; cases e; exact .inl h
      · rw [upd_ne z] at e; exact hs a u e
  · exact ⟨F, Ext.refl hs, .tup (.inr h) r⟩
theorem n_tuple : OpN κ (rTupleOf κ.K) aTuple := by
  intro H F vs ds d Q hs hp hf k
  unfold aTuple at hf
  split at hf
  · obtain ⟨v, rfl, p, ws, rfl, h1, r1⟩ := Paired.one' hp
    cases hf
    exact ⟨p, ws, rfl, .inl ⟨.inl h1, fun l hl => fin_tup hs hl r1 rfl k⟩⟩
  · obtain ⟨v, rfl, p, ws, rfl, h1, r1⟩ := Paired.one' hp
    cases hf
    obtain ⟨F', x, r⟩ := tup_data hs h1 r1
    exact ⟨p, ws, rfl, .inr ⟨h1.sqT, k _ _ _ x r⟩⟩
  · cases hf
def aList : List D → Option D
  | [.list xs] => some (.list xs)
  | [.tuple xs] => some (.list xs)
  | _ => none
theorem o_list : OpNo κ (Evl.rListS κ.K) aList := by
  intro H F vs ds d Q hs hp hf k
  unfold aList at hf
  split at hf
  · obtain ⟨v, rfl, p, ws, rfl, h1, r1⟩ := Paired.one' hp
    cases hf
    exact ⟨p, ws, rfl, .inl (.inl h1), fun l hl => fin_lstO hs hl r1 rfl k⟩
  · obtain ⟨v, rfl, p, ws, rfl, h1, r1⟩ := Paired.one' hp
    cases hf
    exact ⟨p, ws, rfl, .inr h1.sqT, fun l hl => fin_lstO hs hl r1 rfl k⟩
  · cases hf
/-! ### sum, all, any -/
def intsD : List D → Option (List Int)
  | [] => some []
  | .int i :: r => (intsD r).map fun l => i :: l
  | _ :: _ => none
def boolsD : List D → Option (List Bool)
  | [] => some []
  | .bool i :: r => (boolsD r).map fun l => i :: l
  | _ :: _ => none
theorem intsD_vs {F : Hp} : ∀ {ds : List D} {ns : List Int} {vs : List V}, intsD ds = some ns → Reps κ F vs ds → vs = ns.map V.int
  | [], ns, vs, h, r => by cases h; cases r; rfl
  | d :: ds, ns, vs, h, r => by
    cases r with
    | cons r q =>
      cases d with
      | int i =>
        simp only [intsD] at h
        cases e : intsD ds with
        | none => rw [e] at h; cases h
        | some l =>
          rw [e] at h
          cases h
          obtain rfl := Rep.isInt r
          rw [intsD_vs e q]; rfl
      | _ => simp only [intsD] at h; cases h
theorem boolsD_vs {F : Hp} : ∀ {ds : List D} {ns : List Bool} {vs : List V}, boolsD ds = some ns → Reps κ F vs ds → vs = ns.map V.bl
  | [], ns, vs, h, r => by cases h; cases r; rfl
  | d :: ds, ns, vs, h, r => by
    cases r with
    | cons r q =>
      cases d with
      | bool i =>
        simp only [boolsD] at h
        cases e : boolsD ds with
        | none => rw [e] at h; cases h
        | some l =>
          rw [e] at h
          cases h
          obtain rfl := Rep.isBool r
          rw [boolsD_vs e q]; rfl
      | _ => simp only [boolsD] at h; cases h
def aSum : List D → Option D
  | [.list xs] => (intsD xs).map fun l => .int l.sum
  | _ => none
def aAll : List D → Option D
  | [.list xs] => (boolsD xs).map fun l => .bool (l.all id)
  | _ => none
def aAny : List D → Option D
  | [.list xs] => (boolsD xs).map fun l => .bool (l.any id)
  | _ => none
theorem n_sum : OpN κ (rSum κ.K) aSum := by
  intro H F vs ds d Q hs hp hf k
  unfold aSum at hf
  split at hf
  · rename_i xs
    obtain ⟨v, rfl, p, ws, rfl, h1, r1⟩ := Paired.one' hp
    cases e : intsD xs with
    | none => rw [e] at hf; cases hf
    | some l =>
      rw [e] at hf
      cases hf
      obtain rfl := intsD_vs e r1
      exact ⟨p, l, rfl, .inl h1, k _ _ _ (Ext.refl hs) (.int _)⟩
  · cases hf
theorem n_all : OpN κ (rAll κ.K) aAll := by
  intro H F vs ds d Q hs hp hf k
  unfold aAll at hf
  split at hf
  · rename_i xs
    obtain ⟨v, rfl, p, ws, rfl, h1, r1⟩ := Paired.one' hp
    cases e : boolsD xs with
    | none => rw [e] at hf; cases hf
    | some l =>
      rw [e] at hf
      cases hf
      obtain rfl := boolsD_vs e r1
      exact ⟨p, l, rfl, .inl h1, k _ _ _ (Ext.refl hs) (.bl _)⟩
  · cases hf
theorem n_any : OpN κ (rAny κ.K) aAny := by
  intro H F vs ds d Q hs hp hf k
  unfold aAny at hf
  split at hf
  · rename_i xs
    obtain ⟨v, rfl, p, ws, rfl, h1, r1⟩ := Paired.one' hp
    cases e : boolsD xs with
    | none => rw [e] at hf; cases hf
    | some l =>
      rw [e] at hf
      cases hf
      obtain rfl := boolsD_vs e r1
      exact ⟨p, l, rfl, .inl h1, k _ _ _ (Ext.refl hs) (.bl _)⟩
  · cases hf
/-! ### calls by name -/
theorem ed_blt {x : Str} {id : String} {r : List V → Hp → VK → Prop} {f : List D → Option D} {es : List Expr} {os : List Opd} {p : Pos} (hc : CallR X (.builtin id) r) (hr : OpN κ r f) (hg : Gl X x) (hm : X.mg x = none) (hv : bootBuiltins x = some (.builtin id)) (ha : PA X (e :: es) (tOs κ os))
    (hn : x ≠ "__name__" := by decide) (hdb : (x == ("__debug__" : Str)) = false := by decide) (he : starEach (e :: es) X.env = (false, eval e X.env) :: starEach es X.env := by rfl) (hpl : (backTo pos (starEach es X.env)).any (·.1) = false := by rfl) :
    PE X (.Call (.Name x p) (e :: es) [] pos) (tE κ (eOp f os)) := pe_of (pe_callB hc hg hm hv ha hn hdb he hpl) fun _ _ _ q => opN_args hr q
theorem eo_blt {x : Str} {id : String} {r : List V → Hp → VK → Prop} {f : List D → Option D} {es : List Expr} {os : List Opd} {p : Pos} (hc : CallR X (.builtin id) r) (hr : OpNo κ r f) (hg : Gl X x) (hm : X.mg x = none) (hv : bootBuiltins x = some (.builtin id)) (ha : PA X (e :: es) (tOs κ os))
    (hn : x ≠ "__name__" := by decide) (hdb : (x == ("__debug__" : Str)) = false := by decide) (he : starEach (e :: es) X.env = (false, eval e X.env) :: starEach es X.env := by rfl) (hpl : (backTo pos (starEach es X.env)).any (·.1) = false := by rfl) :
    PE X (.Call (.Name x p) (e :: es) [] pos) (tO κ (eOp f os)) := pe_of (pe_callB hc hg hm hv ha hn hdb he hpl) fun _ _ _ q => opNo_args hr q
theorem ed_ty {x : Str} {T : String} {r : List V → Hp → VK → Prop} {f : List D → Option D} {es : List Expr} {os : List Opd} {p : Pos} (hc : CallR X (.type T) r) (hr : OpN κ r f) (hg : Gl X x) (hm : X.mg x = none) (hv : bootBuiltins x = some (.type T)) (ha : PA X (e :: es) (tOs κ os))
    (hn : x ≠ "__name__" := by decide) (hdb : (x == ("__debug__" : Str)) = false := by decide) (he : starEach (e :: es) X.env = (false, eval e X.env) :: starEach es X.env := by rfl) (hpl : (backTo pos (starEach es X.env)).any (·.1) = false := by rfl) :
    PE X (.Call (.Name x p) (e :: es) [] pos) (tE κ (eOp f os)) := pe_of (pe_callTy hc hg hm hv ha hn hdb he hpl) fun _ _ _ q => opN_args hr q
theorem eo_ty {x : Str} {T : String} {r : List V → Hp → VK → Prop} {f : List D → Option D} {es : List Expr} {os : List Opd} {p : Pos} (hc : CallR X (.type T) r) (hr : OpNo κ r f) (hg : Gl X x) (hm : X.mg x = none) (hv : bootBuiltins x = some (.type T)) (ha : PA X (e :: es) (tOs κ os))
    (hn : x ≠ "__name__" := by decide) (hdb : (x == ("__debug__" : Str)) = false := by decide) (he : starEach (e :: es) X.env = (false, eval e X.env) :: starEach es X.env := by rfl) (hpl : (backTo pos (starEach es X.env)).any (·.1) = false := by rfl) :
    PE X (.Call (.Name x p) (e :: es) [] pos) (tO κ (eOp f os)) := pe_of (pe_callTy hc hg hm hv ha hn hdb he hpl) fun _ _ _ q => opNo_args hr q
/-- a built-in that a module's name stands for (gcd) -/
theorem ed_bfun {x : Str} {id : String} {r : List V → Hp → VK → Prop} {f : List D → Option D} {es : List Expr} {os : List Opd} {p : Pos} (hc : CallR X (.builtin id) r) (hr : OpN κ r f) (hg : Gl X x) (hm : X.mg x = some (.builtin id)) (ha : PA X (e :: es) (tOs κ os))
    (hdb : (x == ("__debug__" : Str)) = false := by decide) (he : starEach (e :: es) X.env = (false, eval e X.env) :: starEach es X.env := by rfl) (hpl : (backTo pos (starEach es X.env)).any (·.1) = false := by rfl) :
    PE X (.Call (.Name x p) (e :: es) [] pos) (tE κ (eOp f os)) := pe_of (pe_callBfun hc hg hm ha hdb he hpl) fun _ _ _ q => opN_args hr q
/-! ### slices -/
inductive Prt where
  | no
  | e (m : E)
def runPrt : Prt → Env → Option (Option Int × Env)
  | .no, env => some (none, env)
  | .e m, env => match m env with
    | some (.int i, env') => some (some i, env')
    | _ => none
def tPrt (κ : Kx) (p : Prt) : TO := fun σ H Q => ∃ env F ad r env', Sim κ env σ H F ad ∧ runPrt p env = some (r, env') ∧ ∀ H' F' ad', Sim κ env' σ H' F' ad' → Go env H F ad env' H' F' ad' → Q r H'
theorem po_of {o : Option Expr} {t t' : TO} (h : PO X o t) (w : ∀ σ H Q, t' σ H Q → t σ H Q) : PO X o t' := ⟨fun pins s σ H Q I q => h.run pins s σ H Q I (w σ H Q q)⟩
theorem pr_no : PO X none (tPrt κ .no) := po_of po_none fun σ H Q q => by
  obtain ⟨env, F, ad, r, env', I, hm, k⟩ := q
  cases hm
  exact k H F ad I Go.refl
theorem pr_e {m : E} (h : PE X e (tE κ m)) : PO X (some e) (tPrt κ (.e m)) := po_of (po_some h) fun σ H Q q => by
  obtain ⟨env, F, ad, r, env', I, hm, k⟩ := q
  simp only [runPrt] at hm
  split at hm
  · rename_i i env1 e1
    cases hm
    exact ⟨env, F, ad, _, _, I, e1, fun v H1 F1 ad1 I1 g1 r1 => ⟨_, r1.isInt, k H1 F1 ad1 I1 g1⟩⟩
  · cases hm
/-- what a slice picks -/
def cutD {α : Type} (xs : List α) (lo hi : Option Int) : List α := (xs.drop (HT.sIx xs.length 0 lo)).take (HT.sIx xs.length xs.length hi - HT.sIx xs.length 0 lo)
theorem cut_rep {F : Hp} {vs : List V} {xs : List D} (r : Reps κ F vs xs) (lo hi : Option Int) : Reps κ F (cutV vs lo hi) (cutD xs lo hi) := by
  unfold cutV cutD
  rw [r.length]
  exact (r.drop _).take _
def aSl (lo hi : Option Int) : D → Option D
  | .list xs => some (.list (cutD xs lo hi))
  | _ => none
def rSlAll (K : PySem.W.Frag) : V → Option Int → Option Int → Hp → VK → Prop := rSlL K
def eSl (f : Option Int → Option Int → D → Option D) (o : Opd) (lo hi : Prt) : E := fun env => (runOpd o env).bind fun a => (runPrt lo a.2).bind fun l => (runPrt hi l.2).bind fun h => (a.1.get h.2).bind fun d => (f l.1 h.1 d).map fun r => (r, h.2)
theorem eSl_some {f : Option Int → Option Int → D → Option D} {o : Opd} {lo hi : Prt} {env env' : Env} {d : D} (h : eSl f o lo hi env = some (d, env')) :
    ∃ t env1 l env2 u x, runOpd o env = some (t, env1) ∧ runPrt lo env1 = some (l, env2) ∧ runPrt hi env2 = some (u, env') ∧ t.get env' = some x ∧ f l u x = some d := by
  unfold eSl at h
  cases e1 : runOpd o env with
  | none => rw [e1] at h; cases h
  | some a =>
    rw [e1, Option.bind_some] at h
    cases e2 : runPrt lo a.2 with
    | none => rw [e2] at h; cases h
    | some l =>
      rw [e2, Option.bind_some] at h
      cases e3 : runPrt hi l.2 with
      | none => rw [e3] at h; cases h
      | some u =>
        rw [e3, Option.bind_some] at h
        cases e4 : a.1.get u.2 with
        | none => rw [e4] at h; cases h
        | some x =>
          rw [e4, Option.bind_some] at h
          cases e5 : f l.1 u.1 x with
          | none => rw [e5] at h; cases h
          | some r =>
            rw [e5] at h
            cases h
            exact ⟨a.1, a.2, l.1, l.2, u.1, x, rfl, e2, e3, e4, e5⟩
def OpSlo (κ : Kx) (r : V → Option Int → Option Int → Hp → VK → Prop) (f : Option Int → Option Int → D → Option D) : Prop := ∀ (H F : Hp) (v : V) (lo hi : Option Int) (x d : D) (Q : VK), Sub F H → RepP κ H F v x → f lo hi x = some d →
  (∀ a H' F', Ext H F H' F' → H a = none → F' a = none → TopAt κ H' F' a d → Q (.ref a) H') → r v lo hi H Q
def OpSl (κ : Kx) (r : V → Option Int → Option Int → Hp → VK → Prop) (f : Option Int → Option Int → D → Option D) : Prop := ∀ (H F : Hp) (v : V) (lo hi : Option Int) (x d : D) (Q : VK), Sub F H → RepP κ H F v x → f lo hi x = some d →
  (∀ w H' F', Ext H F H' F' → Rep κ F' w d → Q w H') → r v lo hi H Q
variable {lo hi : Option Expr} {p2 : Pos} {o : Opd} {pl ph : Prt} {f : Option Int → Option Int → D → Option D} {r : V → Option Int → Option Int → Hp → VK → Prop}
theorem eo_sl (hr : SlR X r) (h : OpSlo κ r f) (he : PE X e (tOpd κ o)) (hl : PO X lo (tPrt κ pl)) (hu : PO X hi (tPrt κ ph)) : PE X (.Subscript e (.Slice lo hi none p2) pos) (tO κ (eSl f o pl ph)) :=
  pe_of (pe_slice hr he hl hu) fun σ H Q q => by
    obtain ⟨env, F, ad, d, env', I, hm, k⟩ := q
    obtain ⟨t, env1, l, env2, u, x, h1, h2, h3, h4, h5⟩ := eSl_some hm
    refine ⟨env, F, ad, t, env1, I, h1, fun v H1 F1 ad1 I1 g1 r1 => ⟨env1, F1, ad1, l, env2, I1, h2, fun H2 F2 ad2 I2 g2 => ⟨env2, F2, ad2, u, env', I2, h3, fun H3 F3 ad3 I3 g3 => ?_⟩⟩⟩
    have g := (g1.trans g2).trans g3
    refine h H3 F3 v l u x d Q I3.sub (ItmOk.top I3 (r1.mono (g2.trans g3).sub) h4) h5 fun a H4 F4 x4 ha hf ht => k a H4 F4 ad3 (I3.ext x4) (g.trans (Go.ext x4)) ?_ hf (fun kd q => I3.fresh ha kd q) ht
    cases e0 : H a with
    | none => rfl
    | some ob => exact absurd ha (g.pres a (by rw [e0]; simp))
theorem ed_sl (hr : SlR X r) (h : OpSl κ r f) (he : PE X e (tOpd κ o)) (hl : PO X lo (tPrt κ pl)) (hu : PO X hi (tPrt κ ph)) : PE X (.Subscript e (.Slice lo hi none p2) pos) (tE κ (eSl f o pl ph)) :=
  pe_of (pe_slice hr he hl hu) fun σ H Q q => by
    obtain ⟨env, F, ad, d, env', I, hm, k⟩ := q
    obtain ⟨t, env1, l, env2, u, x, h1, h2, h3, h4, h5⟩ := eSl_some hm
    refine ⟨env, F, ad, t, env1, I, h1, fun v H1 F1 ad1 I1 g1 r1 => ⟨env1, F1, ad1, l, env2, I1, h2, fun H2 F2 ad2 I2 g2 => ⟨env2, F2, ad2, u, env', I2, h3, fun H3 F3 ad3 I3 g3 => ?_⟩⟩⟩
    have g := (g1.trans g2).trans g3
    exact h H3 F3 v l u x d Q I3.sub (ItmOk.top I3 (r1.mono (g2.trans g3).sub) h4) h5 fun a H4 F4 x4 ht => k a H4 F4 ad3 (I3.ext x4) (g.trans (Go.ext x4)) ht
theorem o_sl : OpSlo κ (rSlL κ.K) aSl := by
  intro H F v lo hi x d Q hs rx hf k
  cases x with
  | list xs =>
    obtain ⟨p, vs, rfl, h1, r1⟩ := rx
    cases hf
    exact ⟨p, vs, rfl, .inl h1, fun l hl => fin_lstO hs hl (cut_rep r1 lo hi) rfl k⟩
  | _ => cases hf
end DL
/-! The data layer, 8: what changes: lists and dicts of one's own; dicts read. -/
namespace DL
open PySem L2 PyProof.Rows
variable {κ : Kx} {X : Cx} {e a b : Expr} {pos : Pos}
/-- a slot's object changes its content -/
theorem Sim.write {env : Env} {σ : L2.St} {H F : Hp} {ad : Nat → Addr} {i : Nat} {s s' : S} {o : HO} (I : Sim κ env σ H F ad) (h : env[i]? = some (some s)) (hk : s.is .rw ∨ s.is .own) (hs : s'.shape = s.shape)
    (ho : ∀ vs, o ≠ .tup vs) (ht : SlotAt κ σ (upd H (ad i) o) F (ad i) i s') : Sim κ (env.set i (some s')) σ (upd H (ad i) o) F ad ∧ Go env H F ad (env.set i (some s')) (upd H (ad i) o) F ad := by
  have hi : i < env.length := (List.getElem?_eq_some_iff.mp h).1
  have hob : s.obj = true := by rcases hk with hk | hk <;> (cases s <;> first | rfl | exact False.elim hk)
  have hob' : s'.obj = true := by cases s <;> cases s' <;> simp_all [S.shape, S.obj]
  obtain ⟨hf, _⟩ := I.objAt h hob
  have other : ∀ (j : Nat) (t : S), (env.set i (some s'))[j]? = some (some t) → i ≠ j → env[j]? = some (some t) := fun j t e z => by rw [getElem?_set', if_neg z] at e; exact e
  have self : ∀ (t : S), (env.set i (some s'))[i]? = some (some t) → t = s' := fun t e => by rw [getElem?_set', if_pos rfl, if_pos hi] at e; cases e; rfl
  have nrw : At .rw env ad (ad i) ∨ At .own env ad (ad i) := hk.imp (fun q => ⟨i, s, h, q, rfl⟩) (fun q => ⟨i, s, h, q, rfl⟩)
  refine ⟨⟨by rw [List.length_set]; exact I.len, fun x u e => ?_, fun j t e => ?_, fun j k t t' e1 e2 o1 o2 q => ?_⟩, ⟨fun x ob e n1 n2 => ?_, fun x e => ?_, fun _ _ e => e, fun _ e => .inl e, fun x vs e => ?_, fun x q => ?_, fun j t e hkk => ?_⟩⟩
  · have ne : x ≠ ad i := fun z => by subst z; rw [hf] at e; cases e
    rw [upd_ne ne]
    exact I.sub x u e
  · by_cases z : i = j
    · subst z
      obtain rfl := self t e
      exact ht
    · have e' := other j t e z
      have q := I.slot j t e'
      have ne : t.obj = true → ad j ≠ ad i := fun o' w => z (I.inj i j s t h e' hob o' w.symm)
      have ob : ∀ {k : Kd} {o'}, ad j ≠ ad i → ObjAt k H (ad j) o' → ObjAt k (upd H (ad i) o) (ad j) o' := fun {k o'} z h => by
        cases k with
        | ro => rcases h with h | ⟨od, h⟩; exact .inl (by rw [upd_ne z]; exact h); exact .inr ⟨od, by rw [upd_ne z]; exact h⟩
        | rw => show upd H (ad i) o (ad j) = _; rw [upd_ne z]; exact h
        | own => show upd H (ad i) o (ad j) = _; rw [upd_ne z]; exact h
      cases t with
      | d y => exact q
      | l k xs => obtain ⟨e1, hf', vs, hv, r'⟩ := q; exact ⟨e1, hf', vs, ob (ne rfl) hv, r'⟩
      | m k xs => obtain ⟨e1, hf', o', hv, r'⟩ := q; exact ⟨e1, hf', o', ob (ne rfl) hv, r'⟩
  · by_cases z1 : i = j
    · by_cases z2 : i = k
      · exact z1.symm.trans z2
      · subst z1
        exact (z2 (I.inj i k s t' h (other k t' e2 z2) hob o2 q)).elim
    · by_cases z2 : i = k
      · subst z2
        exact (z1 (I.inj j i t s (other j t e1 z1) h o1 hob q).symm).elim
      · exact I.inj j k t t' (other j t e1 z1) (other k t' e2 z2) o1 o2 q
  · have ne : x ≠ ad i := fun z => by
      subst z
      rcases nrw with q | q
      · exact n1 q
      · exact n2 q
    rw [upd_ne ne]; exact e
  · by_cases z : x = ad i
    · subst z; rw [upd_same]; simp
    · rw [upd_ne z]; exact e
  · by_cases z : x = ad i
    · subst z; rw [upd_same] at e; cases e; exact absurd rfl (ho vs)
    · rw [upd_ne z] at e; exact .inl e
  · obtain ⟨j, t, e, hkk, ea⟩ := q
    by_cases z : i = j
    · subst z
      obtain rfl := self t e
      exact .inl ⟨i, s, h, (S.shape_rw hs .own).mp hkk, ea⟩
    · exact .inl ⟨j, t, other j t e z, hkk, ea⟩
  · by_cases z : i = j
    · subst z
      obtain rfl := self t e
      refine ⟨s, h, hs.symm, rfl, fun hro => ?_⟩
      have := (S.shape_rw hs .ro).mp hro
      rcases hk with hk | hk <;> (cases s <;> simp_all [S.is])
    · exact ⟨t, other j t e z, rfl, rfl, fun _ => rfl⟩
/-! ### lists -/
/-- a list that may be changed -/
def wList (env : Env) (i : Nat) : Option (Kd × List D) := match env[i]? with
  | some (some (.l .rw xs)) => some (.rw, xs)
  | some (some (.l .own xs)) => some (.own, xs)
  | _ => none
theorem wList_some {env : Env} {i : Nat} {k : Kd} {xs : List D} (h : wList env i = some (k, xs)) : env[i]? = some (some (.l k xs)) ∧ (k = .rw ∨ k = .own) := by
  unfold wList at h
  split at h
  · rename_i xs' e; cases h; exact ⟨e, .inl rfl⟩
  · rename_i xs' e; cases h; exact ⟨e, .inr rfl⟩
  · cases h
theorem Sim.wl {env : Env} {σ : L2.St} {H F : Hp} {ad : Nat → Addr} {i : Nat} {k : Kd} {xs : List D} (I : Sim κ env σ H F ad) (h : wList env i = some (k, xs)) : σ[i]? = some (some (.ref (ad i))) ∧ ∃ vs, H (ad i) = some (.lst vs) ∧ Reps κ F vs xs := by
  obtain ⟨e, hk⟩ := wList_some h
  obtain ⟨e1, hf, vs, hv, r⟩ := I.slot i _ e
  refine ⟨e1, vs, ?_, r⟩
  rcases hk with rfl | rfl <;> exact hv
theorem Sim.wlSet {env : Env} {σ : L2.St} {H F : Hp} {ad : Nat → Addr} {i : Nat} {k : Kd} {xs ys : List D} {ws : List V} (I : Sim κ env σ H F ad) (h : wList env i = some (k, xs)) (r : Reps κ F ws ys) :
    Sim κ (env.set i (some (.l k ys))) σ (upd H (ad i) (.lst ws)) F ad ∧ Go env H F ad (env.set i (some (.l k ys))) (upd H (ad i) (.lst ws)) F ad := by
  obtain ⟨e, hk⟩ := wList_some h
  obtain ⟨e1, hf, _⟩ := I.slot i _ e
  refine I.write e (by rcases hk with rfl | rfl; exact .inl rfl; exact .inr rfl) rfl (fun _ z => by cases z) ⟨e1, hf, ws, ?_, r⟩
  rcases hk with rfl | rfl <;> exact upd_same
/-- x[i] = v on a list -/
def pSetL (i : Nat) (ix : E) (val : E) : P := fun env => (val env).bind fun v => if (peek v.2 i).isSome = true then match ix v.2 with
  | some (.int j, env2) => (wList env2 i).bind fun w => (ixN w.2.length j).map fun p => (.nx, env2.set i (some (.l w.1 (w.2.set p v.1))))
  | _ => none else none
theorem Sim.isSome {env : Env} {σ : L2.St} {H F : Hp} {ad : Nat → Addr} {i : Nat} (I : Sim κ env σ H F ad) (h : (DL.peek env i).isSome = true) : ∃ v, σ[i]? = some (some v) := by
  cases e : DL.peek env i with
  | none => rw [e] at h; cases h
  | some d => obtain ⟨v, hv, _⟩ := I.peek e; exact ⟨v, hv⟩
theorem sd_setL {i : Nat} {ix val : E} {o ie : Expr} {pos' : Pos} (ho : PE X o (tVar i)) (hi : PE X ie (tE κ ix)) (hv : PE X e (tE κ val))
    (hs : swapsWithSole [.Subscript o ie pos'] e pos.line X.env = pure false := by rfl) (hw : swappedStores [.Subscript o ie pos'] e X.env = pure none := by rfl)
    (h1 : (assignEach [.Subscript o ie pos'] X.env).map (·.2) = [assign (.Subscript o ie pos') X.env] := by rfl)
    (ha : ∀ v, assign (.Subscript o ie pos') X.env v = (do
      let ov ← holding [v] (eval o X.env)
      let iv ← holding [v, ov] (eval ie X.env)
      standAt pos'
      holding [v, ov, iv] (setItem ov iv v)
      release [v, ov, iv] []) := by intro _; rfl) : PS X (.Assign [.Subscript o ie pos'] e pos) (tS κ (pSetL i ix val)) :=
  ps_of (ps_asg hv (pg_sub ho hi set_list ha) hs hw h1) fun Ds σ H q => by
    obtain ⟨env, F, ad, oo, env', I, hm, k⟩ := q
    unfold pSetL at hm
    cases e1 : val env with
    | none => rw [e1] at hm; cases hm
    | some v =>
      obtain ⟨dv, env1⟩ := v
      rw [e1, Option.bind_some] at hm
      by_cases hps : (peek env1 i).isSome = true
      · rw [if_pos hps] at hm
        split at hm
        · rename_i j env2 e2
          cases e3 : wList env2 i with
          | none => rw [e3] at hm; cases hm
          | some w =>
            obtain ⟨kd, xs⟩ := w
            rw [e3, Option.bind_some] at hm
            cases e4 : ixN xs.length j with
            | none => rw [e4] at hm; cases hm
            | some p =>
              rw [e4] at hm
              cases hm
              refine ⟨env, F, ad, dv, env1, I, e1, fun v H1 F1 ad1 I1 g1 r1 => ?_⟩
              obtain ⟨w, hw⟩ := I1.isSome hps
              refine ⟨w, hw, env1, F1, ad1, _, env2, I1, e2, fun iv H2 F2 ad2 I2 g2 r2 => ?_⟩
              obtain ⟨hσ, vs, hH, rr⟩ := I2.wl e3
              rw [hw] at hσ
              cases hσ
              refine ⟨ad2 i, vs, j, p, rfl, r2.isInt, hH, by rw [rr.length]; exact e4, ?_⟩
              obtain ⟨I3, g3⟩ := I2.wlSet e3 (rr.set p (r1.mono g2.sub))
              exact k σ _ F2 ad2 I3 ((g1.trans g2).trans g3)
        · cases hm
      · rw [if_neg hps] at hm; cases hm
/-- a method of a list that changes it: what comes back, what stands there then -/
def eMutL (i : Nat) (g : List D → List D → Option (D × List D)) (ms : List E) : E := fun env => if (wList env i).isSome = true then (runOpds (allE ms) env).bind fun a => (getAll a.2 a.1).bind fun ds => (wList a.2 i).bind fun w => (g w.2 ds).map fun r => (r.1, a.2.set i (some (.l w.1 r.2))) else none
def MutL (κ : Kx) (r : V → List V → Hp → VK → Prop) (g : List D → List D → Option (D × List D)) : Prop := ∀ (H F : Hp) (p : Addr) (vs us : List V) (xs ds ys : List D) (d : D) (Q : VK), Sub F H → H p = some (.lst vs) → F p = none → Reps κ F vs xs → Reps κ F us ds → g xs ds = some (d, ys) →
  (∀ w ws, Rep κ F w d → Reps κ F ws ys → Q w (upd H p (.lst ws))) → r (.ref p) us H Q
theorem eMutL_some {i : Nat} {g : List D → List D → Option (D × List D)} {ms : List E} {env env' : Env} {d : D} (h : eMutL i g ms env = some (d, env')) :
    (wList env i).isSome = true ∧ ∃ ts env1 ds kd xs ys, runOpds (allE ms) env = some (ts, env1) ∧ getAll env1 ts = some ds ∧ wList env1 i = some (kd, xs) ∧ g xs ds = some (d, ys) ∧ env' = env1.set i (some (.l kd ys)) := by
  unfold eMutL at h
  by_cases h0 : (wList env i).isSome = true
  · rw [if_pos h0] at h
    cases e1 : runOpds (allE ms) env with
    | none => rw [e1] at h; cases h
    | some a =>
      rw [e1, Option.bind_some] at h
      cases e2 : getAll a.2 a.1 with
      | none => rw [e2] at h; cases h
      | some ds =>
        rw [e2, Option.bind_some] at h
        cases e3 : wList a.2 i with
        | none => rw [e3] at h; cases h
        | some w =>
          rw [e3, Option.bind_some] at h
          cases e4 : g w.2 ds with
          | none => rw [e4] at h; cases h
          | some r =>
            rw [e4] at h
            cases h
            exact ⟨h0, a.1, a.2, ds, w.1, w.2, r.2, rfl, e2, e3, e4, rfl⟩
  · rw [if_neg h0] at h; cases h
theorem mut_args {i : Nat} {g : List D → List D → Option (D × List D)} {ms : List E} {r : V → List V → Hp → VK → Prop} (hκ : κ.K = X.K) (hr : MutL κ r g) {σ : L2.St} {H : Hp} {Q : VK} (q : tE κ (eMutL i g ms) σ H Q) :
    tBM X.K "list" r (tVar i) (tOs κ (allE ms)) σ H Q := by
  obtain ⟨env, F, ad, d, env', I, hm, k⟩ := q
  obtain ⟨h0, ts, env1, ds, kd, xs, ys, h1, h2, h3, h4, rfl⟩ := eMutL_some hm
  cases e0 : wList env i with
  | none => rw [e0] at h0; cases h0
  | some w0 =>
    obtain ⟨k0, x0⟩ := w0
    obtain ⟨hσ, vs0, hv0, _⟩ := I.wl e0
    refine ⟨.ref (ad i), hσ, .inl ⟨rfl, vs0, .inl (.inl hv0)⟩, env, F, ad, ts, env1, I, h1, fun us H1 F1 ad1 I1 g1 r1 => ?_⟩
    obtain ⟨ds', q1, q2, q3⟩ := runE_reps (κ := κ) (σ := σ) (F := F1) h1
    rw [h2] at q2
    cases q2
    obtain ⟨hσ1, vs, hv, rr⟩ := I1.wl h3
    rw [hσ] at hσ1
    have ea : ad i = ad1 i := V.ref.inj (Option.some.inj (Option.some.inj hσ1))
    rw [ea]
    have hf : F1 (ad1 i) = none := (I1.objAt (wList_some h3).1 rfl).1
    refine hr H1 F1 (ad1 i) vs us xs ds ys d Q I1.sub hv hf rr (q3 us r1) h4 fun w ws rw' rws => ?_
    obtain ⟨I2, g2⟩ := I1.wlSet h3 rws
    exact k w _ F1 ad1 I2 (g1.trans g2) rw'
theorem ed_mutL {i : Nat} {nm : Str} {id : String} {g : List D → List D → Option (D × List D)} {ms : List E} {es : List Expr} {o : Expr} {apos cpos : Pos} {r : V → List V → Hp → VK → Prop} (hκ : κ.K = X.K) (hr : MutL κ r g) (slot : Slot "list" nm id) (hty : typeOf (.builtin id) = pure (.type "method_descriptor")) (hm : MtR X id r) (ho : PE X o (tVar i)) (ha : PA X (e :: es) (tOs κ (allE ms)))
    (hbase : attributeBase o nm X.env (eval o X.env) = eval o X.env := by rfl)
    (hfew : ((backTo cpos (starEach (e :: es) X.env)).all (fun x => !x.1) && (backToKw cpos (keywordEach [] X.env)).all (fun x => x.1.isSome)
      && decide ((e :: es).length + ([] : List Keyword).length + (if ([] : List Keyword).isEmpty then 0 else 1) < 30)) = true := by rfl)
    (hline : (apos.endLine == cpos.line) = true := by rfl) (hs : starEach (e :: es) X.env = (false, eval e X.env) :: starEach es X.env := by rfl) (hplain : (backTo cpos (starEach es X.env)).any (·.1) = false := by rfl) :
    PE X (.Call (.Attribute o nm apos) (e :: es) [] cpos) (tE κ (eMutL i g ms)) :=
  pe_of (pe_bm PySem.F.plainAttrs_list slot hty hm ho ha hbase hfew hline hs hplain) fun _ _ _ q => mut_args hκ hr q
theorem ed_mutL0 {i : Nat} {nm : Str} {id : String} {g : List D → List D → Option (D × List D)} {o : Expr} {apos cpos : Pos} {r : V → List V → Hp → VK → Prop} (hκ : κ.K = X.K) (hr : MutL κ r g) (slot : Slot "list" nm id) (hty : typeOf (.builtin id) = pure (.type "method_descriptor")) (hm : MtR X id r) (ho : PE X o (tVar i))
    (hbase : attributeBase o nm X.env (eval o X.env) = eval o X.env := by rfl) (hline : (apos.endLine == cpos.line) = true := by rfl) : PE X (.Call (.Attribute o nm apos) [] [] cpos) (tE κ (eMutL i g [])) :=
  pe_of (pe_bm0 PySem.F.plainAttrs_list slot hty hm ho hbase hline) fun σ H Q q => by
    obtain ⟨x, hx, ty, q2⟩ := mut_args hκ hr q
    obtain ⟨env, F, ad, ts, env', I, h1, k⟩ := q2
    cases h1
    exact ⟨x, hx, ty, k [] H F ad I Go.refl .nil⟩
def gAppend (xs : List D) : List D → Option (D × List D)
  | [d] => if xs.length < sizeLine then some (.none, xs ++ [d]) else none
  | _ => none
theorem m_append : MutL κ rAppend gAppend := by
  intro H F p vs us xs ds ys d Q hs hp hf r q h k
  unfold gAppend at h
  split at h
  · cases q with
    | cons q1 q2 =>
      cases q2
      split at h
      · rename_i hz
        cases h
        exact ⟨p, vs, _, rfl, rfl, hp, by rw [r.length]; exact hz, k _ _ .non (r.append (.one q1))⟩
      · cases h
  · cases h
def gPop (xs : List D) : List D → Option (D × List D)
  | [] => (xs[xs.length - 1]?).map fun d => (d, xs.dropLast)
  | [.int i] => if small62 i = true then (seqIndex? i xs.length).bind fun k => (xs[k]?).map fun d => (d, xs.eraseIdx k) else none
  | _ => none
def rPopAny : V → List V → Hp → VK → Prop := fun x vs H Q => rPop x vs H Q ∨ rPopAt x vs H Q
theorem mt_popAny : MtR X "list.pop" rPopAny := fun pins s σ H x xs v us Q I rx rv q => by
  rcases q with q | q
  · exact mt_pop pins s σ H x xs v us Q I rx rv q
  · exact mt_popAt pins s σ H x xs v us Q I rx rv q
theorem m_pop : MutL κ rPopAny gPop := by
  intro H F p vs us xs ds ys d Q hs hp hf r q h k
  unfold gPop at h
  split at h
  · cases q
    cases e : xs[xs.length - 1]? with
    | none => rw [e] at h; cases h
    | some z =>
      rw [e] at h
      cases h
      obtain ⟨v, hv, rv⟩ := r.get e
      exact .inl ⟨p, vs, v, rfl, rfl, hp, by rw [r.length]; exact hv, k _ _ rv r.dropLast⟩
  · rename_i i
    cases q with
    | cons q1 q2 =>
      cases q2
      obtain rfl := q1.isInt
      split at h
      · rename_i hsm
        cases e1 : seqIndex? i xs.length with
        | none => rw [e1] at h; cases h
        | some kk =>
          rw [e1, Option.bind_some] at h
          cases e2 : xs[kk]? with
          | none => rw [e2] at h; cases h
          | some z =>
            rw [e2] at h
            cases h
            obtain ⟨v, hv, rv⟩ := r.get e2
            have hb := small62_of hsm
            refine .inr ⟨p, vs, i, kk, v, rfl, rfl, hp, by omega, by omega, by rw [r.length]; exact e1, hv, k _ _ rv (r.eraseIdx kk)⟩
      · cases h
  · cases h
def rExtR : V → List V → Hp → VK → Prop := fun x vs H Q => ∃ l k xs zs, x = .ref l ∧ vs = [.ref k] ∧ H l = some (.lst xs) ∧ Rd H k (.lst zs) ∧ xs.length + zs.length ≤ sizeLine ∧ Q .non (upd H l (.lst (xs ++ zs)))
theorem mt_extR : MtM X "list.extend" rExtR := by
  intro pins s σ H x vs v us Q I rx rv h
  obtain ⟨l, k, xs, zs, rfl, rfl, hH, hB, hz, q⟩ := h
  cases rx
  obtain ⟨u, rfl, ru⟩ := rv.one
  cases ru
  obtain ⟨_, its, n, r, hl, e⟩ := I.lstM hH
  obtain ⟨_, its2, n2, r2, e2⟩ := lst_rd I hB
  have hl2 := r2.length
  have fits : its.toArray.size + its2.toArray.size ≤ sizeLine := by simp only [List.size_toArray]; omega
  have short : ¬ (!its.toArray.isEmpty && Builtin.List.listTooLong (its.toArray.size + its2.toArray.size)) = true := by
    rw [notLongL fits, Bool.and_false]
    exact Bool.false_ne_true
  have sz := sizeLine_eq
  refine call_meets PySem.F.slot_list_extend ⟨_, e, rfl⟩ PySem.F.entry_list_extend (PySem.F.args_list_extend_2 _ _)
    (PySem.AutoSeq1.list_extend_list_list_0 l its.toArray n k its2.toArray n2 short (by simp only [List.size_toArray]; omega) (by simp only [List.size_toArray] at fits ⊢; omega)) ⟨e, e2, ?_⟩
  exact ⟨.non, _, I.lset (its' := its ++ its2) hH e (by simp) (r.append r2) (by simp only [List.length_append]; omega), rfl, q⟩
def gExtend (xs : List D) : List D → Option (D × List D)
  | [.list ys] => if xs.length + ys.length ≤ sizeLine then some (.none, xs ++ ys) else none
  | _ => none
theorem m_extend : MutL κ rExtR gExtend := by
  intro H F p vs us xs ds ys d Q hs hp hf r q h k
  unfold gExtend at h
  split at h
  · cases q with
    | cons q1 q2 =>
      cases q2
      obtain ⟨m, ws, rfl, h1, r1⟩ := q1.isLst
      split at h
      · rename_i hz
        cases h
        exact ⟨p, m, vs, ws, rfl, rfl, hp, hs.rd h1, by rw [r.length, r1.length]; exact hz, k _ _ .non (r.append r1)⟩
      · cases h
  · cases h
end DL
/-! The data layer, 9: defs that hand back a new object; calls without arguments; odds. -/
namespace DL
open PySem L2 PyProof.Rows
variable {κ : Kx} {X : Cx} {e a b : Expr} {pos : Pos}
def eNotV (m : E) : E := fun env => match m env with
  | some (.bool b, env1) => some (.bool (!b), env1)
  | _ => none
theorem ed_notv {m : E} (ha : PE X a (tE κ m)) : PE X (.UnaryOp .Not a pos) (tE κ (eNotV m)) :=
  pe_of (pe_not ha) fun σ H Q q => by
    obtain ⟨env, F, ad, c, env', I, hm, k⟩ := q
    unfold eNotV at hm
    split at hm
    · rename_i b env1 e1
      cases hm
      exact ⟨env, F, ad, _, _, I, e1, fun v H' F' ad' I' g r => ⟨b, r.isBool, k _ H' F' ad' I' g (.bl _)⟩⟩
    · cases hm
/-- the promise of a def that hands back a new list or dict -/
def spN (κ : Kx) (f : Fn) (n : Nat) : Sp := fun vs H Q _ => ∃ args F ad d args', vs.length = n ∧ args.length = n ∧ Sim κ (args.map some) (vs.map some) H F ad ∧ args.all (fun s => !s.isOwn) = true ∧ f args = some (d, args') ∧
  ∀ a H' F', args'.length = n → Sim κ (args'.map some) (vs.map some) H' F' ad → Go (args.map some) H F ad (args'.map some) H' F' ad → H a = none → F' a = none → TopAt κ H' F' a d → Q (.ref a) H'
structure GblN (κ : Kx) (pr : Program) (w : World) (mg : Str → Option Value) (base : Heap) (x : Str) (ps : List Str) (k : Nat) (f : Fn) : Prop where
  ex : ∃ (a : Addr) (fd : FuncData), mg x = some (.ref a) ∧ PySem.W.keepIn κ.K (.ref a) = true ∧ Binds κ.K fd ps [] ∧ FnOk pr w κ.K mg base CX0 k a fd ps (spN κ f ps.length)
theorem fn_okN {pr : Program} {w : World} {mg : Str → Option Value} {base : Heap} {x : Str} {st : Stmt} {fa : Addr} {fd : FuncData} {N ps : List Str} {k : Nat} {m : E} {e : Expr} {pos : Pos} (Fu : L2.Fun κ.K x x st fa fd) (S : FnScope N ps (defScope st)) (hb : defBody st = [.Return (some e) pos])
    (hbody : ∀ (cdv : Value) (A : Around) (outer : List PySem.Env) (s : Shared) (H : Hp) (E : XK), Room k (A.deeper (envOfC x (defScope st) s.heap.objs.size fa cdv)) →
      PE (cxOf CX0 pr w κ.K mg base N x (defScope st) fa cdv A outer s H E).nox e (tO κ m)) :
    FnOk pr w κ.K mg base CX0 (k + 1) fa fd ps (spN κ (fnD N.length (pRet m)) ps.length) := by
  refine Fu.ok S (fun vs H Q E h => ?_) (fun cdv A outer s H vs Q E hr h => ⟨tRet (tO κ m), by rw [hb]; exact pss_one (ps_ret (hbody cdv A outer s H E hr)), ?_⟩)
  · obtain ⟨args, F, ad, d, args', h1, _⟩ := h
    exact h1
  · obtain ⟨args, F, ad, d, args', h1, h2, I0, ho, hf, k⟩ := h
    unfold fnD pRet at hf
    cases e1 : m (args.map some ++ List.replicate (N.length - args.length) none) with
    | none => rw [e1] at hf; cases hf
    | some r =>
      rw [e1] at hf
      simp only [Option.map_some] at hf
      cases e2 : backs r.2 0 args with
      | none => rw [e2] at hf; cases hf
      | some r' =>
        rw [e2] at hf
        cases hf
        refine ⟨_, F, ad, r.1, r.2, I0.start, e1, fun a H' F' ad' I' g ha hf' hn ht => ?_⟩
        obtain ⟨l, J, gg⟩ := I0.finish ho I' g e2
        exact k a H' F' (l.trans h2) J gg ha hf' ht
theorem runOpds_len : ∀ {os : List Opd} {en en' : Env} {ts : List Itm}, runOpds os en = some (ts, en') → ts.length = os.length
  | [], _, _, _, h => by cases h; rfl
  | o :: os, en, en', ts, h => by
    cases e1 : runOpd o en with
    | none => simp only [runOpds, e1] at h; cases h
    | some a =>
      cases e2 : runOpds os a.2 with
      | none => simp only [runOpds, e1, Option.bind_some, e2] at h; cases h
      | some b =>
        simp only [runOpds, e1, Option.bind_some, e2] at h
        cases h
        rw [List.length_cons, List.length_cons, runOpds_len e2]
theorem eo_call {x : Str} {ps : List Str} {k : Nat} {f : Fn} {es : List Expr} {os : List Opd} {p : Pos} (hκ : κ.K = X.K) (G : GblN κ X.prog X.w X.mg X.base x ps k f) (hr : Room k X.A) (hg : Gl X x) (ha : PA X (e :: es) (tOs κ os)) (hlen : os.length = ps.length) (hdb : (x == ("__debug__" : Str)) = false := by decide)
    (he : starEach (e :: es) X.env = (false, eval e X.env) :: starEach es X.env := by rfl) (hpl : (backTo pos (starEach es X.env)).any (·.1) = false := by rfl) : PE X (.Call (.Name x p) (e :: es) [] pos) (tO κ (eCall f os)) := by
  obtain ⟨fa, fd, h1, h2, h3, h4⟩ := G.ex
  refine pe_of (pe_call (E := E0) (dvs := []) (ds := []) (hκ ▸ h4) hr hg h1 (hκ ▸ h2) (hκ ▸ h3) .nil pass0 ha hdb he hpl) fun σ H Q q => ?_
  obtain ⟨env, F, ad, d, env', I, hm, kk⟩ := q
  obtain ⟨ts, env1, args, args', q1, q2, q3, q4, q5⟩ := eCall_some hm
  refine ⟨env, F, ad, ts, env1, I, q1, fun vs H1 F1 ad1 I1 g1 r1 => ?_⟩
  obtain ⟨hl, _⟩ := argAll_get q3
  obtain ⟨pl, _⟩ := paired_at r1
  have tl := runOpds_len q1
  rw [List.append_nil]
  refine ⟨args, F1, adOf ts ad1, d, args', by omega, by omega, I1.hand r1 q3 q2, args_all q3, q4, fun c H' F' hla J g hc hf ht => ?_⟩
  obtain ⟨I2, g2⟩ := I1.taken r1 q3 q5 J g
  refine kk c H' F' ad1 I2 (g1.trans g2) ?_ hf (fun kd q => ?_) ht
  · cases e0 : H c with
    | none => rfl
    | some ob => exact absurd hc (g1.pres c (by rw [e0]; simp))
  · obtain ⟨j, s', e, hk, ea⟩ := q
    obtain ⟨_, _, bg⟩ := giveBack_get q5
    obtain ⟨s, e0, sh, _⟩ := bg j s' e
    have ho : s'.obj = true := by cases s' <;> first | rfl | exact False.elim hk
    have ho' : s.obj = true := by cases s <;> cases s' <;> simp_all [S.shape, S.obj]
    obtain ⟨_, ob, hrd, _⟩ := I1.objAt e0 ho'
    rw [ea] at hrd
    rcases hrd with hrd | ⟨od, hrd⟩ <;> rw [hc] at hrd <;> cases hrd
/-- f() -/
theorem ed_call0 {x : Str} {k : Nat} {f : Fn} {p : Pos} (hκ : κ.K = X.K) (G : Gbl κ X.prog X.w X.mg X.base x [] k f) (hr : Room k X.A) (hg : Gl X x) (hdb : (x == ("__debug__" : Str)) = false := by decide) : PE X (.Call (.Name x p) [] [] pos) (tE κ (eCall f [])) := by
  obtain ⟨fa, fd, h1, h2, h3, h4⟩ := G.ex
  refine pe_of (pe_call0 (E := E0) (dvs := []) (ds := []) (hκ ▸ h4) hr hg h1 (hκ ▸ h2) (hκ ▸ h3) .nil pass0 hdb) fun σ H Q q => ?_
  obtain ⟨env, F, ad, d, env', I, hm, kk⟩ := q
  obtain ⟨ts, env1, args, args', q1, q2, q3, q4, q5⟩ := eCall_some hm
  refine (show spD κ f 0 [] H Q E0 from ?_)
  cases q1
  cases q3
  refine ⟨[], F, adOf [] ad, d, args', rfl, rfl, I.hand .nil rfl rfl, rfl, q4, fun v H' F' hla J g r => ?_⟩
  obtain ⟨I2, g2⟩ := I.taken .nil rfl q5 J g
  exact kk v H' F' ad I2 g2 r
/-- a, b = x, y with plain local names -/
theorem sd_par {i j : Nat} {x y : Str} {m1 m2 : E} {px py pt : Pos} {kt k2 pt2} (hc : X.calm = true) (hN : X.N.Nodup) (hi : X.N[i]? = some x) (hj : X.N[j]? = some y) (hij : i ≠ j)
    (hx : X.env.scope.names.lookup x = some .local) (hy : X.env.scope.names.lookup y = some .local) (ha : PA X [a, b] (tOs κ (allE [m1, m2])))
    (hw : swappedStores [.Tuple [.Name x px, .Name y py] kt pt] (.Tuple [a, b] k2 pt2) X.env = pure (some [x, y]))
    (hs : swapsWithSole [.Tuple [.Name x px, .Name y py] kt pt] (.Tuple [a, b] k2 pt2) pos.line X.env = pure false := by rfl) :
    PS X (.Assign [.Tuple [.Name x px, .Name y py] kt pt] (.Tuple [a, b] k2 pt2) pos) (tS κ (pSet (.t [.v i, .v j]) (eOp aTup (allE [m1, m2])))) :=
  ps_of (ps_par hc hN hi hj hij hx hy ha hw hs) fun Ds σ H q => by
    obtain ⟨env, F, ad, o, env', I, hm, k⟩ := q
    unfold pSet at hm
    cases e1 : eOp aTup (allE [m1, m2]) env with
    | none => rw [e1] at hm; cases hm
    | some r =>
      obtain ⟨d, env1⟩ := r
      rw [e1, Option.bind_some] at hm
      obtain ⟨ts, ds, h1, h2, h3⟩ := eOp_some e1
      refine ⟨env, F, ad, ts, env1, I, h1, fun vs H1 F1 ad1 I1 g1 r1 => ?_⟩
      obtain ⟨ds', q1, q2, q3⟩ := runE_reps (κ := κ) (σ := σ) (F := F1) h1
      rw [h2] at q2
      cases q2
      have rr := q3 vs r1
      unfold aTup at h3
      split at h3
      · cases h3
        cases e2 : bindPat (.t [.v i, .v j]) (.tuple ds) env1 with
        | none => rw [e2] at hm; cases hm
        | some env2 =>
          rw [e2] at hm
          cases hm
          have hl := bindPats_len (by simpa only [bindPat] using e2)
          match ds, rr, hl with
          | [d1, d2], .cons r1 (.cons r2 .nil), _ =>
            simp only [bindPat, bindPats] at e2
            by_cases z1 : i < env1.length
            · rw [if_pos z1, Option.bind_some] at e2
              by_cases z2 : j < (env1.set i (some (.d d1))).length
              · rw [if_pos z2, Option.bind_some] at e2
                cases e2
                obtain ⟨I2, g2⟩ := I1.setD r1 z1
                obtain ⟨I3, g3⟩ := I2.setD r2 z2
                exact ⟨_, _, rfl, k _ H1 F1 ad1 I3 ((g1.trans g2).trans g3)⟩
              · rw [if_neg z2] at e2; cases e2
            · rw [if_neg z1] at e2; cases e2
      · cases h3
theorem fn_none {pr : Program} {w : World} {K : PySem.W.Frag} {mg : Str → Option Value} {base : Heap} {k : Nat} {fa : Addr} {fd : FuncData} {ps : List Str} : FnOk pr w K mg base CX0 k fa fd ps (spD κ (fun _ => none) ps.length) :=
  ⟨fun vs H Q E h => by obtain ⟨args, F, ad, d, args', h1, _⟩ := h; exact h1, fun A outer s H args us vs Q E hr e0 hb r h => by obtain ⟨args, F, ad, d, args', _, _, _, _, h1, _⟩ := h; cases h1⟩
/-- more turns than any loop here takes -/
def fuel : Nat := 10 ^ 40
/-! ### names of the built-ins -/
theorem bt_len : bootBuiltins ("len" : Str) = some (.builtin "len") := by decide +kernel
theorem bt_abs : bootBuiltins ("abs" : Str) = some (.builtin "abs") := by decide +kernel
theorem bt_int : bootBuiltins ("int" : Str) = some (.type "int") := by decide +kernel
theorem bt_str : bootBuiltins ("str" : Str) = some (.type "str") := by decide +kernel
theorem bt_bool : bootBuiltins ("bool" : Str) = some (.type "bool") := by decide +kernel
theorem bt_tuple : bootBuiltins ("tuple" : Str) = some (.type "tuple") := by decide +kernel
theorem bt_list : bootBuiltins ("list" : Str) = some (.type "list") := by decide +kernel
theorem bt_dict : bootBuiltins ("dict" : Str) = some (.type "dict") := by decide +kernel
theorem bt_sum : bootBuiltins ("sum" : Str) = some (.builtin "sum") := by decide +kernel
theorem bt_all : bootBuiltins ("all" : Str) = some (.builtin "all") := by decide +kernel
theorem bt_any : bootBuiltins ("any" : Str) = some (.builtin "any") := by decide +kernel
theorem bt_min : bootBuiltins ("min" : Str) = some (.builtin "min") := by decide +kernel
theorem bt_max : bootBuiltins ("max" : Str) = some (.builtin "max") := by decide +kernel
theorem bt_sorted : bootBuiltins ("sorted" : Str) = some (.builtin "sorted") := by decide +kernel
theorem bt_isinstance : bootBuiltins ("isinstance" : Str) = some (.builtin "isinstance") := by decide +kernel
end DL
/-! The data layer, 10: chains, in, sorted, slices of any kind. -/
namespace DL
open PySem L2 PyProof.Rows
variable {κ : Kx} {X : Cx} {e a b c : Expr} {pos : Pos}
/-! ### a < b < c -/
def eChain (f g : D → D → Option D) (o1 o2 o3 : Opd) : E := fun env => (runOpd o1 env).bind fun x => (runOpd o2 x.2).bind fun y => (x.1.get y.2).bind fun dx => (y.1.get y.2).bind fun dy => match f dx dy with
  | some (.bool true) => (runOpd o3 y.2).bind fun z => (y.1.get z.2).bind fun dy' => (z.1.get z.2).bind fun dz => (g dy' dz).map fun d => (d, z.2)
  | some (.bool false) => some (.bool false, y.2)
  | _ => none
theorem chain_of {r r' : R2} {f g : D → D → Option D} {o1 o2 o3 : Opd} {σ : L2.St} {H : Hp} {Q : VK} (hr : Op2 κ r f) (hr' : Op2 κ r' g) (q : tE κ (eChain f g o1 o2 o3) σ H Q) : tChain r r' (tOpd κ o1) (tOpd κ o2) (tOpd κ o3) σ H Q := by
  obtain ⟨env, F, ad, d, env', I, hm, k⟩ := q
  unfold eChain at hm
  cases e1 : runOpd o1 env with
  | none => rw [e1] at hm; cases hm
  | some x =>
    rw [e1, Option.bind_some] at hm
    cases e2 : runOpd o2 x.2 with
    | none => rw [e2] at hm; cases hm
    | some y =>
      rw [e2, Option.bind_some] at hm
      cases e3 : x.1.get y.2 with
      | none => rw [e3] at hm; cases hm
      | some dx =>
        rw [e3, Option.bind_some] at hm
        cases e4 : y.1.get y.2 with
        | none => rw [e4] at hm; cases hm
        | some dy =>
          rw [e4, Option.bind_some] at hm
          refine ⟨env, F, ad, x.1, x.2, I, e1, fun v H1 F1 ad1 I1 g1 r1 => ⟨x.2, F1, ad1, y.1, y.2, I1, e2, fun u H2 F2 ad2 I2 g2 r2 => ?_⟩⟩
          split at hm
          · rename_i e5
            refine hr H2 F2 v u dx dy _ _ I2.sub ((r1.mono g2.sub).top I2 e3) (r2.top I2 e4) e5 fun w H3 F3 x3 hw => ⟨true, hw.isBool, ?_⟩
            rw [if_pos rfl]
            cases e6 : runOpd o3 y.2 with
            | none => rw [e6] at hm; cases hm
            | some z =>
              rw [e6, Option.bind_some] at hm
              cases e7 : y.1.get z.2 with
              | none => rw [e7] at hm; cases hm
              | some dy' =>
                rw [e7, Option.bind_some] at hm
                cases e8 : z.1.get z.2 with
                | none => rw [e8] at hm; cases hm
                | some dz =>
                  rw [e8, Option.bind_some] at hm
                  cases e9 : g dy' dz with
                  | none => rw [e9] at hm; cases hm
                  | some dd =>
                    rw [e9] at hm
                    cases hm
                    refine ⟨y.2, F3, ad2, z.1, z.2, I2.ext x3, e6, fun w' H4 F4 ad4 I4 g4 r4 => ?_⟩
                    have gg := ((g1.trans g2).trans (Go.ext x3)).trans g4
                    exact hr' H4 F4 u w' dy' dz _ _ I4.sub ((r2.mono ((Go.ext (env := y.2) (ad := ad2) x3).trans g4).sub).top I4 e7) (r4.top I4 e8) e9 fun w5 H5 F5 x5 hw5 => k w5 H5 F5 ad4 (I4.ext x5) (gg.trans (Go.ext x5)) hw5
          · rename_i e5
            cases hm
            refine hr H2 F2 v u dx dy _ _ I2.sub ((r1.mono g2.sub).top I2 e3) (r2.top I2 e4) e5 fun w H3 F3 x3 hw => ⟨false, hw.isBool, ?_⟩
            rw [if_neg Bool.false_ne_true]
            exact k _ H3 F3 ad2 (I2.ext x3) ((g1.trans g2).trans (Go.ext x3)) (.bl false)
          · cases hm
theorem ed_chain {op op' : CmpOp} {r r' : R2} {f g : D → D → Option D} {o1 o2 o3 : Opd} (ho : OpR X (compareOp op) r) (hr : Op2 κ r f) (ho' : OpR X (compareOp op') r') (hr' : Op2 κ r' g) (ha : PE X a (tOpd κ o1)) (hb : PE X b (tOpd κ o2)) (hc : PE X c (tOpd κ o3))
    (hm : lastMarks [op, op'] [b, c] = false := by with_unfolding_all rfl) : PE X (.Compare a [op, op'] [b, c] pos) (tE κ (eChain f g o1 o2 o3)) :=
  pe_of (pe_chain ho ho' ha hb hc hm) fun _ _ _ q => chain_of hr hr' q
theorem td_chain {op op' : CmpOp} {r r' : R2} {f g : D → D → Option D} {o1 o2 o3 : Opd} (ho : OpR X (compareOp op) r) (hr : Op2 κ r f) (ho' : OpR X (compareOp op') r') (hr' : Op2 κ r' g) (ha : PE X a (tOpd κ o1)) (hb : PE X b (tOpd κ o2)) (hc : PE X c (tOpd κ o3))
    (hm : lastMarks [op, op'] [b, c] = false := by with_unfolding_all rfl) : PT X (.Compare a [op, op'] [b, c] pos) (tT κ (tB (eChain f g o1 o2 o3))) :=
  pt_of (pt_chain ho ho' ha hb hc hm) fun _ _ _ q => chain_of hr hr' (tT_tB q)
/-! ### in, not in -/
def inD (x : D) : D → Option Bool
  | .list ys => if SeqAt.shaped x = true ∧ SeqAt.shaped (.list ys) = true then some (ys.any fun z => PyData.eqv z x) else none
  | .str z => match x with
    | .str ⟨s⟩ => match s.toList with
      | [c] => some (decide (c ∈ z.cps.toList))
      | _ => none
    | _ => none
  | _ => none
def aIn (x y : D) : Option D := (inD x y).map .bool
def aNotIn (x y : D) : Option D := (inD x y).map fun b => .bool (!b)
def rInA (K : PySem.W.Frag) : R2 := fun x y H Q => rInD K x y H Q ∨ ∃ (c : Nat) (z : Str), x = .str ⟨#[c]⟩ ∧ y = .str z ∧ Q (.bl (decide (c ∈ z.cps.toList))) H
def rNotInA (K : PySem.W.Frag) : R2 := fun x y H Q => rNotInD K x y H Q ∨ ∃ (c : Nat) (z : Str), x = .str ⟨#[c]⟩ ∧ y = .str z ∧ Q (.bl (!decide (c ∈ z.cps.toList))) H
theorem room65 {k : Nat} {A : Around} (r : Room k A) : A.units + 65 < cLine := by have := r.un; omega
theorem op_inA (hu : X.A.units + 65 < cLine) : OpR X (compareOp .In) (rInA X.K) := opr_or (op_inD hu) op_in_sign
theorem op_notInA (hu : X.A.units + 65 < cLine) : OpR X (compareOp .NotIn) (rNotInA X.K) := opr_or (op_notInD hu) op_notIn_sign
theorem inD_cases {x y : D} {b : Bool} (h : inD x y = some b) : (∃ ys, y = .list ys ∧ SeqAt.shaped x = true ∧ SeqAt.shaped (.list ys) = true ∧ b = ys.any fun z => PyData.eqv z x) ∨ ∃ (c : Nat) (z : Str), x = .str ⟨#[c]⟩ ∧ y = .str z ∧ b = decide (c ∈ z.cps.toList) := by
  unfold inD at h
  split at h
  · rename_i ys
    split at h
    · rename_i c
      cases h
      exact .inl ⟨ys, rfl, c.1, c.2, rfl⟩
    · cases h
  · rename_i z
    split at h
    · rename_i s
      split at h
      · rename_i c hs
        cases h
        refine .inr ⟨c, z, ?_, rfl, rfl⟩
        congr 1
        congr 1
        exact Array.ext' (by rw [hs])
      · cases h
    · cases h
  · cases h
theorem d_in : Op2 κ (rInA κ.K) aIn := by
  intro H F v u x y d Q hs rx ry h k
  unfold aIn at h
  cases e : inD x y with
  | none => rw [e] at h; cases h
  | some b =>
    rw [e] at h
    cases h
    rcases inD_cases e with ⟨ys, rfl, s1, s2, rfl⟩ | ⟨c, z, rfl, rfl, rfl⟩
    · exact .inl ⟨x, ys, Rep.dp x v (rx.rep hs) (SeqAt.canLay_of_shaped s1), Rep.dp _ u (ry.rep hs) (SeqAt.canLay_of_shaped s2), s1, s2, k _ _ _ (Ext.refl hs) (.bl _)⟩
    · obtain rfl := Rep.isStr rx
      obtain rfl := Rep.isStr ry
      exact .inr ⟨c, z, rfl, rfl, k _ _ _ (Ext.refl hs) (.bl _)⟩
theorem d_notIn : Op2 κ (rNotInA κ.K) aNotIn := by
  intro H F v u x y d Q hs rx ry h k
  unfold aNotIn at h
  cases e : inD x y with
  | none => rw [e] at h; cases h
  | some b =>
    rw [e] at h
    cases h
    rcases inD_cases e with ⟨ys, rfl, s1, s2, rfl⟩ | ⟨c, z, rfl, rfl, rfl⟩
    · exact .inl ⟨x, ys, Rep.dp x v (rx.rep hs) (SeqAt.canLay_of_shaped s1), Rep.dp _ u (ry.rep hs) (SeqAt.canLay_of_shaped s2), s1, s2, k _ _ _ (Ext.refl hs) (.bl _)⟩
    · obtain rfl := Rep.isStr rx
      obtain rfl := Rep.isStr ry
      exact .inr ⟨c, z, rfl, rfl, k _ _ _ (Ext.refl hs) (.bl _)⟩
/-! ### sorted -/
open PySem.W (alike dataLe AllAlike Sortable EachIs)
def rSortedD (K : PySem.W.Frag) : List V → Hp → VK → Prop := fun vs H Q => ∃ (a : Addr) (ps : List (V × PyData)), vs = [V.ref a] ∧ SqL K H a (ps.map (·.1)) ∧ (∀ p ∈ ps, Dp K H p.1 p.2) ∧ AllAlike (ps.map Prod.snd) ∧ Sortable (ps.map Prod.snd) ∧ (∀ p ∈ ps, p.2.depth ≤ 60) ∧
  ∀ l, H l = none → Q (.ref l) (upd H l (.lst ((ps.mergeSort (dataLe false Prod.snd)).map (·.1))))
theorem each_vals {K : PySem.W.Frag} {H : Hp} : ∀ {ps : List (V × PyData)} {us : List Value}, Vals (ps.map (·.1)) us → EachIs (fun (u : Value) (p : V × PyData) => RelV p.1 u) us ps
  | [], _, r => by cases r; exact .nil
  | p :: ps, _, r => by
    cases r with
    | cons r1 r2 => exact .cons r1 (each_vals (K := K) (H := H) r2)
theorem vals_each {K : PySem.W.Frag} {H : Hp} : ∀ {ps : List (V × PyData)} {us : List Value}, EachIs (fun (u : Value) (p : V × PyData) => RelV p.1 u) us ps → Vals (ps.map (·.1)) us
  | _, _, .nil => .nil
  | _, _, .cons r1 r2 => .cons r1 (vals_each (K := K) (H := H) r2)
theorem each_and {α β : Type} {R S : α → β → Prop} : ∀ {xs : List α} {ys : List β}, EachIs R xs ys → (∀ x y, y ∈ ys → R x y → S x y) → EachIs S xs ys
  | _, _, .nil, _ => .nil
  | _, _, .cons r q, h => .cons (h _ _ List.mem_cons_self r) (each_and q fun x y hy => h x y (List.mem_cons_of_mem _ hy))
theorem cr_sortedD (hu : X.A.units + 64 < cLine) : CallR X (.builtin "sorted") (rSortedD X.K) := by
  intro pins s σ H vs us Q I r h
  obtain ⟨a, ps, rfl, hs, hd, ha, hk, hz60, q⟩ := h
  obtain ⟨its, rv, hl, hz⟩ := I.list hs
  rw [Vals.ref1 r]
  have e := each_vals (K := X.K) (H := H) rv
  rw [List.length_map] at hz
  refine PySem.W.sorted_data (β := V × PyData) (enc := Prod.snd) (R := fun (u : Value) (p : V × PyData) => RelV p.1 u) hl.isList e (each_and e fun u p hp ru => Dp.reads I p.2 p.1 u (hd p hp) ru) ha hk hz (fun p hp => by have := hz60 p hp; omega) fun out h1 h2 => ?_
  have h3 := vals_each (K := X.K) (H := H) h2
  obtain ⟨ep, he'⟩ := PyProof.Rows.sortedAll_at s.heap its out.toArray
  have hlen : ((ps.mergeSort (dataLe false Prod.snd)).map (·.1)).length ≤ sizeLine := by
    rw [List.length_map, List.length_mergeSort]; exact hz
  exact ⟨.ref _, upd H (s.heap.objs.size + 1) (.lst _), I.laid (t' := s.toks) (fun _ _ => PyProof.Rows.sortedAll_old) (Nat.le_succ _) ⟨hlen, out, ep, h3, he'⟩, rfl, q _ (I.hok.fresh (Nat.le_succ _))⟩
def noSeq : D → Bool
  | .none => false
  | .tuple _ => false
  | _ => true
def tupS : D → Bool
  | .tuple (_ :: _) => true
  | _ => false
/-- the least first -/
abbrev dLe : D → D → Bool := dataLe false id
def aSorted : List D → Option D
  | [.list ds] => if (ds.all fun x => ds.all fun y => alike x y) = true ∧ (ds.all noSeq || ds.all tupS) = true ∧ (ds.all fun x => decide (x.depth ≤ 60)) = true ∧ (ds.all fun x => x.canLay0) = true then some (.list (ds.mergeSort dLe)) else none
  | _ => none
theorem zip_reps {F : Hp} : ∀ {vs : List V} {ds : List D}, Reps κ F vs ds → (vs.zip ds).map (·.1) = vs ∧ (vs.zip ds).map Prod.snd = ds ∧ ∀ p ∈ vs.zip ds, Rep κ F p.1 p.2
  | _, _, .nil => ⟨rfl, rfl, fun _ h => by cases h⟩
  | _, _, .cons r q => by
    obtain ⟨h1, h2, h3⟩ := zip_reps q
    refine ⟨by simp only [List.zip_cons_cons, List.map_cons, h1], by simp only [List.zip_cons_cons, List.map_cons, h2], fun p hp => ?_⟩
    rcases List.mem_cons.mp hp with rfl | hp
    · exact r
    · exact h3 p hp
theorem reps_pairs {F : Hp} : ∀ {ps : List (V × PyData)}, (∀ p ∈ ps, Rep κ F p.1 p.2) → Reps κ F (ps.map (·.1)) (ps.map Prod.snd)
  | [], _ => .nil
  | p :: ps, h => .cons (h p List.mem_cons_self) (reps_pairs fun q hq => h q (List.mem_cons_of_mem _ hq))
theorem sortable_of {ds : List D} (h : (ds.all noSeq || ds.all tupS) = true) : Sortable ds := by
  rcases Bool.or_eq_true _ _ ▸ h with h | h
  · refine .inr fun d hd => ?_
    have := List.all_eq_true.mp h d hd
    cases d <;> simp [noSeq] at this ⊢
  · refine .inl fun d hd => ?_
    have := List.all_eq_true.mp h d hd
    cases d with
    | tuple xs => cases xs with
      | nil => simp [tupS] at this
      | cons x r => exact ⟨x, r, rfl⟩
    | _ => simp [tupS] at this
theorem o_sorted : OpNo κ (rSortedD κ.K) aSorted := by
  intro H F vs ds d Q hs hp hf k
  unfold aSorted at hf
  split at hf
  · rename_i xs
    obtain ⟨v, rfl, p, ws, rfl, h1, r1⟩ := Paired.one' hp
    split at hf
    · rename_i c
      cases hf
      obtain ⟨z1, z2, z3⟩ := zip_reps r1
      refine ⟨p, ws.zip xs, rfl, by rw [z1]; exact .inl h1, fun q hq => ?_, ?_, ?_, fun q hq => ?_, fun l hl => ?_⟩
      · have hx : q.2 ∈ xs := by rw [← z2]; exact List.mem_map.mpr ⟨q, hq, rfl⟩
        exact Rep.dp q.2 q.1 ((z3 q hq).mono hs) (List.all_eq_true.mp c.2.2.2 _ hx)
      · rw [z2]
        intro x hx y hy
        exact List.all_eq_true.mp (List.all_eq_true.mp c.1 x hx) y hy
      · rw [z2]; exact sortable_of c.2.1
      · have hx : q.2 ∈ xs := by rw [← z2]; exact List.mem_map.mpr ⟨q, hq, rfl⟩
        exact of_decide_eq_true (List.all_eq_true.mp c.2.2.1 _ hx)
      · have e : ((ws.zip xs).mergeSort (dataLe false Prod.snd)).map Prod.snd = xs.mergeSort dLe := by
          exact (PySem.W.sort_maps (r := dataLe false Prod.snd) (s := dLe) (Prod.snd : V × PyData → PyData) (fun _ _ _ _ => rfl)).trans (by rw [z2])
        refine fin_lstO hs hl (reps_pairs fun q hq => z3 q (List.mem_mergeSort.mp hq)) (by rw [e]) k
    · cases hf
  · cases hf
/-! ### slices -/
def aSlA (lo hi : Option Int) : D → Option D
  | .list xs => some (.list (cutD xs lo hi))
  | .tuple xs => some (.tuple (cutD xs lo hi))
  | .str z => if z.length ≤ sizeLine then some (.str (cutS z lo hi)) else none
  | _ => none
def rSlAny (K : PySem.W.Frag) : V → Option Int → Option Int → Hp → VK → Prop := fun x lo hi H Q => rSlL K x lo hi H Q ∨ (rSlA K x lo hi H Q ∨ rSlS x lo hi H Q)
theorem sl_any : SlR X (rSlAny X.K) := SlR.or sl_list (SlR.or sl_tupA sl_str)
theorem d_slA : OpSl κ (rSlAny κ.K) aSlA := by
  intro H F v lo hi x d Q hs rx hf k
  cases x with
  | list xs =>
    cases hf
    obtain ⟨l, vs, rfl, h1, r1⟩ := rx
    exact .inl ⟨l, vs, rfl, .inl h1, fun p hp => fin_lst hs hp (cut_rep r1 lo hi) rfl k⟩
  | tuple xs =>
    cases hf
    obtain ⟨l, vs, rfl, h1, r1⟩ := rx
    refine .inr (.inl ⟨l, vs, rfl, h1.sqT, fun hc => ?_, fun _ p hp => fin_tup hs hp (cut_rep r1 lo hi) rfl k⟩)
    obtain ⟨F', x, r⟩ := tup_data hs h1 r1
    have e : cutD xs lo hi = xs := by
      rw [r1.length] at hc
      unfold cutD
      rw [hc.1, hc.2]
      simp
    rw [e] at k
    exact k _ _ _ x r
  | str z =>
    change (if z.length ≤ sizeLine then some (PyData.str (cutS z lo hi)) else none) = some d at hf
    split at hf
    · rename_i hz
      cases hf
      obtain rfl := Rep.isStr rx
      exact .inr (.inr ⟨z, rfl, hz, k _ _ _ (Ext.refl hs) (.str _)⟩)
    · cases hf
  | _ => cases hf
end DL
/-! The data layer, 11: a new list so many times. -/
namespace DL
open PySem L2 PyProof.Rows
variable {κ : Kx} {X : Cx} {e a b c : Expr} {pos : Pos}
def eRep (m n : E) : E := fun env => match m env with
  | some (.list xs, env1) => match n env1 with
    | some (.int k, env2) => if k.natAbs < 1000000 ∧ xs.length * k.toNat ≤ sizeLine then some (.list (List.replicate k.toNat xs).flatten, env2) else none
    | _ => none
  | _ => none
theorem eRep_some {m n : E} {env env' : Env} {d : D} (h : eRep m n env = some (d, env')) : ∃ xs env1 k, m env = some (.list xs, env1) ∧ n env1 = some (.int k, env') ∧ k.natAbs < 1000000 ∧ xs.length * k.toNat ≤ sizeLine ∧ d = .list (List.replicate k.toNat xs).flatten := by
  unfold eRep at h
  split at h
  · rename_i xs env1 e1
    split at h
    · rename_i k env2 e2
      split at h
      · rename_i c
        cases h
        exact ⟨xs, env1, k, e1, e2, c.1, c.2, rfl⟩
      · cases h
    · cases h
  · cases h
theorem rep_args {m n : E} {σ : L2.St} {H : Hp} {Q : VK} (q : tE κ (eRep m n) σ H Q) : tOp rRep (tO κ m) (tE κ n) σ H Q := by
  obtain ⟨env, F, ad, d, env', I, hm, k⟩ := q
  obtain ⟨xs, env1, i, h1, h2, h3, h4, rfl⟩ := eRep_some hm
  refine ⟨env, F, ad, _, env1, I, h1, fun p H1 F1 ad1 I1 g1 hp hf hn ht => ?_⟩
  obtain ⟨vs, hv, rv⟩ := ht
  refine ⟨env1, F1, ad1, _, env', I1, h2, fun u H2 F2 ad2 I2 g2 r2 => ?_⟩
  obtain rfl := r2.isInt
  have hk : H2 p = some (.lst vs) := g2.keep p _ hv (hn .rw) (hn .own)
  refine ⟨p, i, vs, rfl, rfl, hk, by omega, by omega, by rw [rv.length]; exact h4, fun l hl => ?_⟩
  refine fin_lst (d := .list (List.replicate i.toNat xs).flatten) I2.sub hl ((rv.mono g2.sub).flatten_rep _) rfl fun w H3 F3 x hw => k w H3 F3 ad2 (I2.ext x) ((g1.trans g2).trans (Go.ext x)) hw
theorem ed_rep {m n : E} (ha : PE X a (tO κ m)) (hb : PE X b (tE κ n)) : PE X (.BinOp a .Mult b pos) (tE κ (eRep m n)) := pe_of (pe_op op_rep ha hb) fun _ _ _ q => rep_args q
@[simp] theorem ev_rep {m n : E} {env : Env} : eRep m n env = match m env with
  | some (.list xs, env1) => match n env1 with
    | some (.int k, env2) => if k.natAbs < 1000000 ∧ xs.length * k.toNat ≤ sizeLine then some (.list (List.replicate k.toNat xs).flatten, env2) else none
    | _ => none
  | _ => none := rfl
end DL
/-! The data layer read off: plain evaluation of the combinators. -/
namespace DL
open PySem L2 PyProof.Rows
/-- a number of at most n bits -/
class Sm (x : Int) (n : outParam Nat) : Prop where
  h : x.natAbs < 2 ^ n
theorem Sm.le {x : Int} {n m : Nat} (h : Sm x n) (l : n ≤ m) : Sm x m := ⟨Nat.lt_of_lt_of_le h.h (Nat.pow_le_pow_right (by decide) l)⟩
instance Sm.lit (k : Nat) : Sm (no_index (@OfNat.ofNat Int k _)) (@OfNat.ofNat Nat k (instOfNatNat k)) := ⟨by
  show (Int.ofNat k).natAbs < 2 ^ k
  exact Nat.lt_two_pow_self⟩
instance (priority := high) Sm.p1 : Sm (618970019642690137449562111 : Int) 90 := ⟨by decide +kernel⟩
instance (priority := high) Sm.p2 : Sm (162259276829213363391578010288127 : Int) 108 := ⟨by decide +kernel⟩
instance (priority := high) Sm.p3 : Sm (1000000000000000000 : Int) 60 := ⟨by decide +kernel⟩
instance Sm.neg {x : Int} {n : Nat} [h : Sm x n] : Sm (-x) n := ⟨by rw [Int.natAbs_neg]; exact h.h⟩
theorem two_pow_add {n m a b : Nat} (h1 : a < 2 ^ n) (h2 : b < 2 ^ m) : a + b < 2 ^ (n + m + 1) := by
  have q1 : 2 ^ n ≤ 2 ^ (n + m) := Nat.pow_le_pow_right (by decide) (by omega)
  have q2 : 2 ^ m ≤ 2 ^ (n + m) := Nat.pow_le_pow_right (by decide) (by omega)
  rw [Nat.pow_succ]
  omega
instance Sm.add {x y : Int} {n m : Nat} [h1 : Sm x n] [h2 : Sm y m] : Sm (x + y) (n + m + 1) := ⟨Nat.lt_of_le_of_lt (Int.natAbs_add_le x y) (two_pow_add h1.h h2.h)⟩
instance Sm.sub {x y : Int} {n m : Nat} [h1 : Sm x n] [h2 : Sm y m] : Sm (x - y) (n + m + 1) := ⟨Nat.lt_of_le_of_lt (by omega) (two_pow_add h1.h h2.h)⟩
instance Sm.mul {x y : Int} {n m : Nat} [h1 : Sm x n] [h2 : Sm y m] : Sm (x * y) (n + m) := ⟨by
  rw [Int.natAbs_mul, Nat.pow_add]
  exact Nat.mul_lt_mul'' h1.h h2.h⟩
instance Sm.abs {x : Int} {n : Nat} [h : Sm x n] : Sm (x.natAbs : Int) n := ⟨by rw [Int.natAbs_natCast]; exact h.h⟩
theorem abs_fdiv_le (x y : Int) : (x.fdiv y).natAbs ≤ x.natAbs := by
  rcases Int.lt_trichotomy y 0 with h | h | h
  · have e := Int.fdiv_eq_ediv (a := x) (b := y)
    have e2 : x.fdiv y = (-x).fdiv (-y) := by rw [Int.neg_fdiv_neg]
    rw [e2, Int.fdiv_eq_ediv_of_nonneg _ (by omega)]
    have : (-x / -y).natAbs ≤ (-x).natAbs := Int.natAbs_ediv_le_natAbs _ _
    omega
  · subst h; simp
  · rw [Int.fdiv_eq_ediv_of_nonneg _ (by omega)]
    exact Int.natAbs_ediv_le_natAbs _ _
instance Sm.fdiv {x y : Int} {n : Nat} [h : Sm x n] : Sm (x.fdiv y) n := ⟨Nat.lt_of_le_of_lt (abs_fdiv_le x y) h.h⟩
instance Sm.ediv {x y : Int} {n : Nat} [h : Sm x n] : Sm (x / y) n := ⟨Nat.lt_of_le_of_lt (Int.natAbs_ediv_le_natAbs x y) h.h⟩
theorem abs_fmod_lt (x y : Int) (h : y ≠ 0) : (x.fmod y).natAbs < y.natAbs := by
  rcases Int.lt_or_gt_of_ne h with h | h
  · have e2 : x.fmod y = -((-x).fmod (-y)) := by rw [Int.neg_fmod_neg]; omega
    rw [e2, Int.fmod_eq_emod_of_nonneg _ (by omega)]
    have h1 := Int.emod_lt_of_pos (-x) (show 0 < -y by omega)
    have h2 := Int.emod_nonneg (-x) (show -y ≠ 0 by omega)
    omega
  · rw [Int.fmod_eq_emod_of_nonneg _ (by omega)]
    have h1 := Int.emod_lt_of_pos x (show 0 < y by omega)
    have h2 := Int.emod_nonneg x (show y ≠ 0 by omega)
    omega
theorem Sm.max' {a n m : Nat} (h : a < 2 ^ n) : a < 2 ^ (n + m) := Nat.lt_of_lt_of_le h (Nat.pow_le_pow_right (by decide) (by omega))
instance Sm.fmod {x y : Int} {n m : Nat} [h1 : Sm x n] [h2 : Sm y m] : Sm (x.fmod y) (n + m) := ⟨by
  by_cases z : y = 0
  · subst z; simp; exact Sm.max' h1.h
  · rw [Nat.add_comm]; exact Sm.max' (Nat.lt_trans (abs_fmod_lt x y z) h2.h)⟩
instance Sm.emod {x y : Int} {n m : Nat} [h1 : Sm x n] [h2 : Sm y m] : Sm (x % y) (n + m) := ⟨by
  by_cases z : y = 0
  · subst z; simp; exact Sm.max' h1.h
  · have h3 := Int.emod_nonneg x z
    have h4 := Int.emod_lt x z
    rw [Nat.add_comm]; exact Sm.max' (Nat.lt_trans (by omega) h2.h)⟩
instance Sm.gcd {x y : Int} {n m : Nat} [h1 : Sm x n] [h2 : Sm y m] : Sm ((Nat.gcd x.natAbs y.natAbs : Nat) : Int) (n + m) := ⟨by
  rw [Int.natAbs_natCast]
  by_cases z : x.natAbs = 0
  · rw [z, Nat.gcd_zero_left, Nat.add_comm]; exact Sm.max' h2.h
  · exact Nat.lt_of_le_of_lt (Nat.gcd_le_left _ (by omega)) (Sm.max' h1.h)⟩
theorem Sm.log {x : Int} {n : Nat} (h : Sm x n) : x.natAbs.log2 ≤ n := by
  by_cases z : x.natAbs = 0
  · rw [z]; simp
  · exact Nat.le_of_lt ((Nat.log2_lt z).mpr h.h)
/-! ### the operations -/
section
variable {i j : Int} {n m : Nat}
@[simp] theorem ev_add : aAdd (.int i) (.int j) = some (.int (i + j)) := rfl
@[simp] theorem ev_sub : aSub (.int i) (.int j) = some (.int (i - j)) := rfl
@[simp] theorem ev_neg : aNeg (.int i) = some (.int (-i)) := rfl
@[simp] theorem ev_mul [h1 : Sm i n] [h2 : Sm j m] (h : n + m < 100000000) : aMulI (.int i) (.int j) = some (.int (i * j)) := by
  exact if_pos (decide_eq_true (by have := h1.log; have := h2.log; omega))
theorem ev_div [h2 : Sm j m] (h0 : j ≠ 0) (h : m < 9000) : aDiv (.int i) (.int j) = some (.int (i.fdiv j)) := by
  exact if_pos (decide_eq_true ⟨h0, by have := h2.log; omega⟩)
@[simp] theorem ev_divP [h2 : Sm j m] (h0 : 0 < j) (h : m < 9000) : aDiv (.int i) (.int j) = some (.int (i / j)) := by
  rw [ev_div (by omega) h, Int.fdiv_eq_ediv_of_nonneg _ (by omega)]
theorem ev_mod (h0 : j ≠ 0) : aMod (.int i) (.int j) = some (.int (i.fmod j)) := by
  exact if_neg h0
@[simp] theorem ev_modP (h0 : 0 < j) : aMod (.int i) (.int j) = some (.int (i % j)) := by
  rw [ev_mod (by omega), Int.fmod_eq_emod_of_nonneg _ (by omega)]
@[simp] theorem ev_lt : aLtI (.int i) (.int j) = some (.bool (decide (i < j))) := rfl
@[simp] theorem ev_le : aLeI (.int i) (.int j) = some (.bool (decide (i ≤ j))) := rfl
@[simp] theorem ev_gt : aGtI (.int i) (.int j) = some (.bool (decide (j < i))) := rfl
@[simp] theorem ev_ge : aGeI (.int i) (.int j) = some (.bool (decide (j ≤ i))) := rfl
@[simp] theorem ev_eq : aEq (.int i) (.int j) = some (.bool (decide (i = j))) := by
  unfold aEq
  rw [if_pos ⟨rfl, rfl⟩]
  show some (PyData.bool _) = _
  congr 1
@[simp] theorem ev_ne : aNe (.int i) (.int j) = some (.bool (!decide (i = j))) := by
  unfold aNe
  rw [if_pos ⟨rfl, rfl⟩]
  show some (PyData.bool _) = _
  exact congrArg (fun b => some (PyData.bool (!b))) (by unfold PyData.eqv; first | rfl | exact (by cases h : decide (i = j) <;> simp_all))
@[simp] theorem ev_eqB {p q : Bool} : aEq (.bool p) (.bool q) = some (.bool (p == q)) := by
  unfold aEq
  rw [if_pos ⟨rfl, rfl⟩]
  cases p <;> cases q <;> rfl
@[simp] theorem ev_neB {p q : Bool} : aNe (.bool p) (.bool q) = some (.bool (!(p == q))) := by
  unfold aNe
  rw [if_pos ⟨rfl, rfl⟩]
  cases p <;> cases q <;> rfl
@[simp] theorem ev_pow (h : 0 ≤ j ∧ j ≤ 1000000 ∧ i.natAbs < 2 ^ 64) : aPow (.int i) (.int j) = some (.int (i ^ j.toNat)) := if_pos h
@[simp] theorem ev_isNone {x : D} : aIs x .none = some (.bool (isNoneD x)) := rfl
@[simp] theorem ev_isB {x : D} {b : Bool} : aIs x (.bool b) = some (.bool (isFlagD b x)) := rfl
@[simp] theorem ev_isNotNone {x : D} : aIsNot x .none = some (.bool (!isNoneD x)) := rfl
@[simp] theorem ev_isNotB {x : D} {b : Bool} : aIsNot x (.bool b) = some (.bool (!isFlagD b x)) := rfl
@[simp] theorem ev_flag {b c : Bool} : isFlagD b (.bool c) = (c == b) := rfl
@[simp] theorem ev_int : aInt [.int i] = some (.int i) := rfl
@[simp] theorem ev_intB {b : Bool} : aInt [.bool b] = some (.int (if b then 1 else 0)) := rfl
@[simp] theorem ev_abs : aAbs [.int i] = some (.int (i.natAbs : Int)) := by
  show some (PyData.int (if i < 0 then -i else i)) = _
  congr 2
  split <;> omega
@[simp] theorem ev_gcd : aGcd [.int i, .int j] = some (.int ((Nat.gcd i.natAbs j.natAbs : Nat) : Int)) := rfl
@[simp] theorem ev_tupleL {xs : List D} : aTuple [.list xs] = some (.tuple xs) := rfl
@[simp] theorem ev_tupleT {xs : List D} : aTuple [.tuple xs] = some (.tuple xs) := rfl
@[simp] theorem ev_listL {xs : List D} : aList [.list xs] = some (.list xs) := rfl
@[simp] theorem ev_listT {xs : List D} : aList [.tuple xs] = some (.list xs) := rfl
@[simp] theorem ev_ixL {xs : List D} : aIx (.list xs) (.int i) = atI xs i := rfl
@[simp] theorem ev_ixT {xs : List D} : aIx (.tuple xs) (.int i) = atI xs i := rfl
@[simp] theorem ev_ixS {xs : List D} : aIx (.dict [(.none, .list xs)]) (.int i) = atI xs i := rfl
@[simp] theorem ev_lenL {xs : List D} : aLen [.list xs] = some (.int (xs.length : Int)) := rfl
@[simp] theorem ev_lenT {xs : List D} : aLen [.tuple xs] = some (.int (xs.length : Int)) := rfl
@[simp] theorem ev_lenS {xs : List D} : aLen [.dict [(.none, .list xs)]] = some (.int (xs.length : Int)) := rfl
theorem sizeLine_big : 1000000 ≤ sizeLine := by decide
theorem ev_tup {ds : List D} (h : ds.length ≤ 1000000) : aTup ds = some (.tuple ds) := if_pos (Nat.le_trans h sizeLine_big)
theorem ev_lst {ds : List D} (h : ds.length ≤ 1000000) : aLst ds = some (.list ds) := if_pos (Nat.le_trans h sizeLine_big)
@[simp] theorem ev_tup0 : aTup [] = some (.tuple []) := if_pos (by simp only [List.length]; exact Nat.le_trans (by decide) sizeLine_big)
@[simp] theorem ev_lst0 : aLst [] = some (.list []) := if_pos (by simp only [List.length]; exact Nat.le_trans (by decide) sizeLine_big)
@[simp] theorem ev_tup1 {x0 : D} : aTup [x0] = some (.tuple [x0]) := if_pos (by simp only [List.length]; exact Nat.le_trans (by decide) sizeLine_big)
@[simp] theorem ev_lst1 {x0 : D} : aLst [x0] = some (.list [x0]) := if_pos (by simp only [List.length]; exact Nat.le_trans (by decide) sizeLine_big)
@[simp] theorem ev_tup2 {x0 x1 : D} : aTup [x0, x1] = some (.tuple [x0, x1]) := if_pos (by simp only [List.length]; exact Nat.le_trans (by decide) sizeLine_big)
@[simp] theorem ev_lst2 {x0 x1 : D} : aLst [x0, x1] = some (.list [x0, x1]) := if_pos (by simp only [List.length]; exact Nat.le_trans (by decide) sizeLine_big)
@[simp] theorem ev_tup3 {x0 x1 x2 : D} : aTup [x0, x1, x2] = some (.tuple [x0, x1, x2]) := if_pos (by simp only [List.length]; exact Nat.le_trans (by decide) sizeLine_big)
@[simp] theorem ev_lst3 {x0 x1 x2 : D} : aLst [x0, x1, x2] = some (.list [x0, x1, x2]) := if_pos (by simp only [List.length]; exact Nat.le_trans (by decide) sizeLine_big)
@[simp] theorem ev_tup4 {x0 x1 x2 x3 : D} : aTup [x0, x1, x2, x3] = some (.tuple [x0, x1, x2, x3]) := if_pos (by simp only [List.length]; exact Nat.le_trans (by decide) sizeLine_big)
@[simp] theorem ev_lst4 {x0 x1 x2 x3 : D} : aLst [x0, x1, x2, x3] = some (.list [x0, x1, x2, x3]) := if_pos (by simp only [List.length]; exact Nat.le_trans (by decide) sizeLine_big)
@[simp] theorem ev_tup5 {x0 x1 x2 x3 x4 : D} : aTup [x0, x1, x2, x3, x4] = some (.tuple [x0, x1, x2, x3, x4]) := if_pos (by simp only [List.length]; exact Nat.le_trans (by decide) sizeLine_big)
@[simp] theorem ev_lst5 {x0 x1 x2 x3 x4 : D} : aLst [x0, x1, x2, x3, x4] = some (.list [x0, x1, x2, x3, x4]) := if_pos (by simp only [List.length]; exact Nat.le_trans (by decide) sizeLine_big)
@[simp] theorem ev_tup6 {x0 x1 x2 x3 x4 x5 : D} : aTup [x0, x1, x2, x3, x4, x5] = some (.tuple [x0, x1, x2, x3, x4, x5]) := if_pos (by simp only [List.length]; exact Nat.le_trans (by decide) sizeLine_big)
@[simp] theorem ev_lst6 {x0 x1 x2 x3 x4 x5 : D} : aLst [x0, x1, x2, x3, x4, x5] = some (.list [x0, x1, x2, x3, x4, x5]) := if_pos (by simp only [List.length]; exact Nat.le_trans (by decide) sizeLine_big)
@[simp] theorem ev_tup7 {x0 x1 x2 x3 x4 x5 x6 : D} : aTup [x0, x1, x2, x3, x4, x5, x6] = some (.tuple [x0, x1, x2, x3, x4, x5, x6]) := if_pos (by simp only [List.length]; exact Nat.le_trans (by decide) sizeLine_big)
@[simp] theorem ev_lst7 {x0 x1 x2 x3 x4 x5 x6 : D} : aLst [x0, x1, x2, x3, x4, x5, x6] = some (.list [x0, x1, x2, x3, x4, x5, x6]) := if_pos (by simp only [List.length]; exact Nat.le_trans (by decide) sizeLine_big)
@[simp] theorem ev_tup8 {x0 x1 x2 x3 x4 x5 x6 x7 : D} : aTup [x0, x1, x2, x3, x4, x5, x6, x7] = some (.tuple [x0, x1, x2, x3, x4, x5, x6, x7]) := if_pos (by simp only [List.length]; exact Nat.le_trans (by decide) sizeLine_big)
@[simp] theorem ev_lst8 {x0 x1 x2 x3 x4 x5 x6 x7 : D} : aLst [x0, x1, x2, x3, x4, x5, x6, x7] = some (.list [x0, x1, x2, x3, x4, x5, x6, x7]) := if_pos (by simp only [List.length]; exact Nat.le_trans (by decide) sizeLine_big)
@[simp] theorem ev_tup9 {x0 x1 x2 x3 x4 x5 x6 x7 x8 : D} : aTup [x0, x1, x2, x3, x4, x5, x6, x7, x8] = some (.tuple [x0, x1, x2, x3, x4, x5, x6, x7, x8]) := if_pos (by simp only [List.length]; exact Nat.le_trans (by decide) sizeLine_big)
@[simp] theorem ev_lst9 {x0 x1 x2 x3 x4 x5 x6 x7 x8 : D} : aLst [x0, x1, x2, x3, x4, x5, x6, x7, x8] = some (.list [x0, x1, x2, x3, x4, x5, x6, x7, x8]) := if_pos (by simp only [List.length]; exact Nat.le_trans (by decide) sizeLine_big)
@[simp] theorem ev_tup10 {x0 x1 x2 x3 x4 x5 x6 x7 x8 x9 : D} : aTup [x0, x1, x2, x3, x4, x5, x6, x7, x8, x9] = some (.tuple [x0, x1, x2, x3, x4, x5, x6, x7, x8, x9]) := if_pos (by simp only [List.length]; exact Nat.le_trans (by decide) sizeLine_big)
@[simp] theorem ev_lst10 {x0 x1 x2 x3 x4 x5 x6 x7 x8 x9 : D} : aLst [x0, x1, x2, x3, x4, x5, x6, x7, x8, x9] = some (.list [x0, x1, x2, x3, x4, x5, x6, x7, x8, x9]) := if_pos (by simp only [List.length]; exact Nat.le_trans (by decide) sizeLine_big)
@[simp] theorem ev_tup11 {x0 x1 x2 x3 x4 x5 x6 x7 x8 x9 x10 : D} : aTup [x0, x1, x2, x3, x4, x5, x6, x7, x8, x9, x10] = some (.tuple [x0, x1, x2, x3, x4, x5, x6, x7, x8, x9, x10]) := if_pos (by simp only [List.length]; exact Nat.le_trans (by decide) sizeLine_big)
@[simp] theorem ev_lst11 {x0 x1 x2 x3 x4 x5 x6 x7 x8 x9 x10 : D} : aLst [x0, x1, x2, x3, x4, x5, x6, x7, x8, x9, x10] = some (.list [x0, x1, x2, x3, x4, x5, x6, x7, x8, x9, x10]) := if_pos (by simp only [List.length]; exact Nat.le_trans (by decide) sizeLine_big)
@[simp] theorem ev_tup12 {x0 x1 x2 x3 x4 x5 x6 x7 x8 x9 x10 x11 : D} : aTup [x0, x1, x2, x3, x4, x5, x6, x7, x8, x9, x10, x11] = some (.tuple [x0, x1, x2, x3, x4, x5, x6, x7, x8, x9, x10, x11]) := if_pos (by simp only [List.length]; exact Nat.le_trans (by decide) sizeLine_big)
@[simp] theorem ev_lst12 {x0 x1 x2 x3 x4 x5 x6 x7 x8 x9 x10 x11 : D} : aLst [x0, x1, x2, x3, x4, x5, x6, x7, x8, x9, x10, x11] = some (.list [x0, x1, x2, x3, x4, x5, x6, x7, x8, x9, x10, x11]) := if_pos (by simp only [List.length]; exact Nat.le_trans (by decide) sizeLine_big)
end
@[simp] theorem atI0 {x : D} {r : List D} : atI (x :: r) 0 = some x := atI_nat (j := 0) rfl
@[simp] theorem atI1 {x y : D} {r : List D} : atI (x :: y :: r) 1 = some y := atI_nat (j := 1) rfl
@[simp] theorem atI2 {x y z : D} {r : List D} : atI (x :: y :: z :: r) 2 = some z := atI_nat (j := 2) rfl
@[simp] theorem atI3 {x y z u : D} {r : List D} : atI (x :: y :: z :: u :: r) 3 = some u := atI_nat (j := 3) rfl
@[simp] theorem lget0 {α : Type} {x : α} {l : List α} : (x :: l)[0]? = some x := rfl
@[simp] theorem lgetS {α : Type} {x : α} {l : List α} {n : Nat} : (x :: l)[n + 1]? = l[n]? := rfl
/-! ### the frame -/
section
variable {env : Env} {i : Nat} {m n : E} {p q : P} {t u : T} {d : D}
@[simp] theorem ev_k : eK d env = some (d, env) := rfl
@[simp] theorem ev_v : eV i env = match env[i]? with
  | some (some (.d x)) => some (x, env)
  | some (some (.l .own xs)) => some (.list xs, env.set i (some (.d (.list xs))))
  | some (some (.m .own kvs)) => some (.dict kvs, env.set i (some (.d (.dict kvs))))
  | _ => none := rfl
@[simp] theorem ev_op {f : List D → Option D} {os : List Opd} : eOp f os env = (runOpds os env).bind fun a => (getAll a.2 a.1).bind fun ds => (f ds).map fun d => (d, a.2) := rfl
@[simp] theorem ev_op2 {f : D → D → Option D} {o1 o2 : Opd} : eOp2 f o1 o2 env = (runOpds [o1, o2] env).bind fun a => (getAll a.2 a.1).bind fun ds => (f2 f ds).map fun d => (d, a.2) := rfl
@[simp] theorem ev_op1 {f : D → Option D} {o1 : Opd} : eOp1 f o1 env = (runOpds [o1] env).bind fun a => (getAll a.2 a.1).bind fun ds => (f1 f ds).map fun d => (d, a.2) := rfl
@[simp] theorem ev_f2 {f : D → D → Option D} {x y : D} : f2 f [x, y] = f x y := rfl
@[simp] theorem ev_f1 {f : D → Option D} {x : D} : f1 f [x] = f x := rfl
@[simp] theorem ev_tB : tB m env = match m env with
  | some (.bool b, env') => some (b, env')
  | _ => none := rfl
@[simp] theorem ev_tTrue : tTrue env = some (true, env) := rfl
@[simp] theorem ev_and : tAndD t u env = (t env).bind fun a => if a.1 = true then u a.2 else some (false, a.2) := rfl
@[simp] theorem ev_or : tOrD t u env = (t env).bind fun a => if a.1 = true then some (true, a.2) else u a.2 := rfl
@[simp] theorem ev_not : tNotD t env = (t env).map fun a => (!a.1, a.2) := rfl
@[simp] theorem ev_tru {o : Opd} : tTru o env = (runOpd o env).bind fun a => (a.1.get a.2).bind fun d => (truD d).map fun b => (b, a.2) := rfl
@[simp] theorem ev_eand : eAnd m n env = match m env with
  | some (.bool true, env1) => n env1
  | some (.bool false, env1) => some (.bool false, env1)
  | _ => none := rfl
@[simp] theorem ev_eor : eOr m n env = match m env with
  | some (.bool true, env1) => some (.bool true, env1)
  | some (.bool false, env1) => n env1
  | _ => none := rfl
@[simp] theorem ev_enot : eNotV m env = match m env with
  | some (.bool b, env1) => some (.bool (!b), env1)
  | _ => none := rfl
@[simp] theorem ev_eif : eIf t m n env = (t env).bind fun a => if a.1 = true then m a.2 else n a.2 := rfl
@[simp] theorem ev_skip : pSkip env = some (.nx, env) := rfl
@[simp] theorem ev_seq : pSeq p q env = match p env with
  | some (.nx, env1) => q env1
  | r => r := rfl
@[simp] theorem ev_set {pt : Pat} : pSet pt m env = (m env).bind fun a => (bindPat pt a.1 a.2).map fun env' => (.nx, env') := rfl
@[simp] theorem ev_own : pOwn i m env = (m env).bind fun a => (own a.1).bind fun s => if i < a.2.length then some (.nx, a.2.set i (some s)) else none := rfl
@[simp] theorem ev_drop : pDrop m env = (m env).map fun a => (.nx, a.2) := rfl
@[simp] theorem ev_ret : pRet m env = (m env).map fun a => (.rt a.1, a.2) := rfl
@[simp] theorem ev_retN : pRetN env = some (.rt .none, env) := rfl
@[simp] theorem ev_brk : pBrk env = some (.bk, env) := rfl
@[simp] theorem ev_cnt : pCnt env = some (.ct, env) := rfl
@[simp] theorem ev_if : pIf t p q env = (t env).bind fun a => if a.1 = true then p a.2 else q a.2 := rfl
@[simp] theorem ev_for {it : I} {pt : Pat} : pFor it pt p env = (it env).bind fun a => forL pt p a.1 a.2 := rfl
@[simp] theorem ev_forL0 {pt : Pat} : forL pt p [] env = some (.nx, env) := rfl
theorem ev_forL {pt : Pat} {ds : List D} : forL pt p (d :: ds) env = (bindPat pt d env).bind fun env1 => match p env1 with
    | some (.nx, env2) => forL pt p ds env2
    | some (.ct, env2) => forL pt p ds env2
    | some (.bk, env2) => some (.nx, env2)
    | r => r := rfl
@[simp] theorem ev_iseq : iSeq m env = (m env).bind fun a => (seqD a.1).map fun ds => (ds, a.2) := rfl
@[simp] theorem ev_seqL {xs : List D} : seqD (.list xs) = some xs := rfl
@[simp] theorem ev_seqT {xs : List D} : seqD (.tuple xs) = some xs := rfl
@[simp] theorem ev_iop {g : List D → Option (List D)} {os : List Opd} : iOp g os env = (runOpds os env).bind fun a => (getAll a.2 a.1).bind fun ds => (g ds).map fun r => (r, a.2) := rfl
@[simp] theorem ev_ienm : iEnm m env = match m env with
  | some (.list xs, env') => some (enumD 0 xs, env')
  | _ => none := rfl
@[simp] theorem ev_rng1 {j : Int} (h : -(2 ^ 62) < j ∧ j < 2 ^ 62) : rng1 [.int j] = some (upTo 0 j.toNat) := by
  exact if_pos (small62_ok h)
@[simp] theorem ev_rng2 {i j : Int} (h : (-(2 ^ 62) < i ∧ i < 2 ^ 62) ∧ (-(2 ^ 62) < j ∧ j < 2 ^ 62)) : rng2 [.int i, .int j] = some (upTo i (j - i).toNat) := by
  exact if_pos ⟨small62_ok h.1, small62_ok h.2⟩
@[simp] theorem ev_fn {k : Nat} {args : List S} : fnD k p args = match p (args.map some ++ List.replicate (k - args.length) none) with
  | some (.rt d, env') => (backs env' 0 args).map fun r => (d, r)
  | some (.nx, env') => (backs env' 0 args).map fun r => (.none, r)
  | _ => none := rfl
@[simp] theorem ev_call {f : Fn} {os : List Opd} : eCall f os env = (runOpds os env).bind fun a => if apart a.2 a.1 = true then (argAll a.2 a.1).bind fun args => (f args).bind fun r => (giveBack a.1 r.2 a.2).map fun env' => (r.1, env') else none := rfl
@[simp] theorem ev_setL {ix val : E} : pSetL i ix val env = (val env).bind fun v => if (peek v.2 i).isSome = true then match ix v.2 with
  | some (.int j, env2) => (wList env2 i).bind fun w => (ixN w.2.length j).map fun p => (.nx, env2.set i (some (.l w.1 (w.2.set p v.1))))
  | _ => none else none := rfl
end
section
variable {env env' : Env} {i j : Nat} {m : E} {o : Opd} {os : List Opd} {d x : D} {t : Itm} {ts : List Itm} {s s' : S} {ss : List S} {xs ys : List D} {k k' : Kd} {kv kw : List (D × D)}
@[simp] theorem ev_runE : runOpd (.e m) env = (m env).map fun r => (.d r.1, r.2) := rfl
@[simp] theorem ev_runP : runOpd (.p i) env = (peek env i).map fun _ => (.i i, env) := rfl
@[simp] theorem ev_run0 : runOpds [] env = some ([], env) := rfl
@[simp] theorem ev_run1 : runOpds (o :: os) env = (runOpd o env).bind fun a => (runOpds os a.2).map fun b => (a.1 :: b.1, b.2) := rfl
@[simp] theorem ev_getD : Itm.get env (.d x) = some x := rfl
@[simp] theorem ev_getI : Itm.get env (.i j) = peek env j := rfl
@[simp] theorem ev_get0 : getAll env [] = some [] := rfl
@[simp] theorem ev_get1 : getAll env (t :: ts) = (t.get env).bind fun d => (getAll env ts).map fun ds => d :: ds := rfl
@[simp] theorem ev_dataD : (S.d x).data = x := rfl
@[simp] theorem ev_dataL : (S.l k xs).data = .list xs := rfl
@[simp] theorem ev_dataM : (S.m k kv).data = .dict kv := rfl
@[simp] theorem ev_all0 : runOpds (allE []) env = some ([], env) := rfl
@[simp] theorem ev_all1 {ms : List E} : runOpds (allE (m :: ms)) env = (runOpd (.e m) env).bind fun a => (runOpds (allE ms) a.2).map fun b => (a.1 :: b.1, b.2) := rfl
@[simp] theorem ev_bindV : bindPat (.v i) d env = if i < env.length then some (env.set i (some (.d d))) else none := by unfold bindPat; rfl
@[simp] theorem ev_bindT {ps : List Pat} : bindPat (.t ps) (.tuple xs) env = bindPats ps xs env := by rw [bindPat]
@[simp] theorem ev_binds0 : bindPats [] [] env = some env := by rw [bindPats]
@[simp] theorem ev_binds1 {p : Pat} {ps : List Pat} : bindPats (p :: ps) (d :: xs) env = (bindPat p d env).bind fun env1 => bindPats ps xs env1 := by rw [bindPats]
@[simp] theorem ev_argD : Itm.arg env (.d x) = some (.d x) := rfl
@[simp] theorem ev_argI : Itm.arg env (.i j) = (env[j]?.bind id).map S.lend := rfl
@[simp] theorem ev_args0 : argAll env [] = some [] := rfl
@[simp] theorem ev_args1 : argAll env (t :: ts) = (t.arg env).bind fun d => (argAll env ts).map fun ds => d :: ds := rfl
@[simp] theorem ev_lendD : (S.d x).lend = .d x := rfl
@[simp] theorem ev_lendO : (S.l .own xs).lend = .l .rw xs := rfl
@[simp] theorem ev_lendW : (S.l .rw xs).lend = .l .rw xs := rfl
@[simp] theorem ev_lendR : (S.l .ro xs).lend = .l .ro xs := rfl
@[simp] theorem ev_backD : (S.d x).back s = some (.d x) := by cases s <;> rfl
@[simp] theorem ev_backL : (S.l k xs).back (.l k' ys) = some (.l k ys) := rfl
@[simp] theorem ev_gb0 : giveBack [] [] env = some env := rfl
@[simp] theorem ev_gbD : giveBack (.d x :: ts) (s :: ss) env = giveBack ts ss env := rfl
@[simp] theorem ev_gbI : giveBack (.i j :: ts) (s :: ss) env = (env[j]?.bind id).bind fun s0 => (s0.back s).bind fun s1 => giveBack ts ss (env.set j (some s1)) := rfl
@[simp] theorem ev_ap0 : apart env [] = true := rfl
@[simp] theorem ev_apD : apart env (.d x :: ts) = apart env ts := rfl
@[simp] theorem ev_apI : apart env (.i j :: ts) = ((match env[j]? with
    | some (some (.d _)) => true
    | _ => ts.all fun t => match t with
      | .i j' => decide (j' ≠ j)
      | .d _ => true) && apart env ts) := rfl
@[simp] theorem ev_bk0 : backs env i [] = some [] := rfl
@[simp] theorem ev_bk1 : backs env i (s :: ss) = (backOne env i s).bind fun s' => (backs env (i + 1) ss).map fun r' => s' :: r' := rfl
@[simp] theorem ev_boD : backOne env i (.d x) = some (.d x) := rfl
@[simp] theorem ev_boL : backOne env i (.l k xs) = match env[i]? with
  | some (some (.l k' ys)) => if k' = k then some (.l k ys) else none
  | _ => none := rfl
@[simp] theorem ev_ownL : own (.list xs) = some (.l .own xs) := rfl
@[simp] theorem ev_nn0 : isNoneD .none = true := rfl
@[simp] theorem ev_nnB {b : Bool} : isNoneD (.bool b) = false := rfl
@[simp] theorem ev_nnI {i : Int} : isNoneD (.int i) = false := rfl
@[simp] theorem ev_nnT : isNoneD (.tuple xs) = false := rfl
@[simp] theorem ev_nnL : isNoneD (.list xs) = false := rfl
end
@[simp] theorem ev_peek {env : Env} {i : Nat} : peek env i = (env[i]?.bind id).map S.data := rfl
@[simp] theorem ev_w {env : Env} {i : Nat} : wList env i = match env[i]? with
  | some (some (.l .rw xs)) => some (.rw, xs)
  | some (some (.l .own xs)) => some (.own, xs)
  | _ => none := rfl
end DL
/-! Rules for the loops of the data layer. -/
namespace DL
open PySem L2
theorem seq_nx {p q : P} {env env1 : Env} (h : p env = some (.nx, env1)) : pSeq p q env = q env1 := by
  show (match p env with | some (.nx, env1) => q env1 | r => r) = _
  rw [h]
theorem while_rule {t : T} {m : P} (I : Env → Prop) (μ : Env → Nat) (Q : Out → Env → Prop)
    (step : ∀ env, I env → (∃ e1, t env = some (false, e1) ∧ Q .nx e1) ∨ ∃ e1, t env = some (true, e1) ∧
      ((∃ e2, m e1 = some (.nx, e2) ∧ I e2 ∧ μ e2 < μ env) ∨ (∃ e2, m e1 = some (.ct, e2) ∧ I e2 ∧ μ e2 < μ env) ∨ (∃ e2, m e1 = some (.bk, e2) ∧ Q .nx e2) ∨ ∃ d e2, m e1 = some (.rt d, e2) ∧ Q (.rt d) e2)) :
    ∀ (n : Nat) (env : Env), I env → μ env < n → ∃ o e', pWhile t m n env = some (o, e') ∧ Q o e'
  | 0, env, _, h => absurd h (Nat.not_lt_zero _)
  | n + 1, env, hi, h => by
    rcases step env hi with ⟨e1, h1, h2⟩ | ⟨e1, h1, ⟨e2, h2, h3, h4⟩ | ⟨e2, h2, h3, h4⟩ | ⟨e2, h2, h3⟩ | ⟨d, e2, h2, h3⟩⟩
    · exact ⟨.nx, e1, by simp only [pWhile, h1, Option.bind_some]; simp, h2⟩
    · obtain ⟨o, e', q1, q2⟩ := while_rule I μ Q step n e2 h3 (by omega)
      exact ⟨o, e', by simp only [pWhile, h1, Option.bind_some, if_true, h2]; exact q1, q2⟩
    · obtain ⟨o, e', q1, q2⟩ := while_rule I μ Q step n e2 h3 (by omega)
      exact ⟨o, e', by simp only [pWhile, h1, Option.bind_some, if_true, h2]; exact q1, q2⟩
    · exact ⟨.nx, e2, by simp only [pWhile, h1, Option.bind_some, if_true, h2], h3⟩
    · exact ⟨.rt d, e2, by simp only [pWhile, h1, Option.bind_some, if_true, h2], h3⟩
theorem for_rule {p : Pat} {body : P} (I : List D → Env → Prop) (Q : Out → Env → Prop) (nil : ∀ env, I [] env → Q .nx env)
    (cons : ∀ d ds env, I (d :: ds) env → ∃ e1, bindPat p d env = some e1 ∧
      ((∃ e2, body e1 = some (.nx, e2) ∧ I ds e2) ∨ (∃ e2, body e1 = some (.ct, e2) ∧ I ds e2) ∨ (∃ e2, body e1 = some (.bk, e2) ∧ Q .nx e2) ∨ ∃ r e2, body e1 = some (.rt r, e2) ∧ Q (.rt r) e2)) :
    ∀ (ds : List D) (env : Env), I ds env → ∃ o e', forL p body ds env = some (o, e') ∧ Q o e'
  | [], env, h => ⟨.nx, env, rfl, nil env h⟩
  | d :: ds, env, h => by
    obtain ⟨e1, h1, ⟨e2, h2, h3⟩ | ⟨e2, h2, h3⟩ | ⟨e2, h2, h3⟩ | ⟨r, e2, h2, h3⟩⟩ := cons d ds env h
    · obtain ⟨o, e', q1, q2⟩ := for_rule I Q nil cons ds e2 h3
      exact ⟨o, e', by rw [ev_forL, h1, Option.bind_some, h2]; exact q1, q2⟩
    · obtain ⟨o, e', q1, q2⟩ := for_rule I Q nil cons ds e2 h3
      exact ⟨o, e', by rw [ev_forL, h1, Option.bind_some, h2]; exact q1, q2⟩
    · exact ⟨.nx, e2, by rw [ev_forL, h1, Option.bind_some, h2], h3⟩
    · exact ⟨.rt r, e2, by rw [ev_forL, h1, Option.bind_some, h2], h3⟩
/-- a loop that no turn leaves -/
theorem for_all {p : Pat} {body : P} (I : List D → Env → Prop)
    (cons : ∀ d ds env, I (d :: ds) env → ∃ e1, bindPat p d env = some e1 ∧ ∃ e2, (body e1 = some (.nx, e2) ∨ body e1 = some (.ct, e2)) ∧ I ds e2)
    (ds : List D) (env : Env) (h : I ds env) : ∃ e', forL p body ds env = some (.nx, e') ∧ I [] e' := by
  obtain ⟨o, e', h1, h2, h3⟩ := for_rule (p := p) (body := body) I (fun o e => o = .nx ∧ I [] e) (fun env h => ⟨rfl, h⟩)
    (fun d ds env h => by
      obtain ⟨e1, h1, e2, h2, h3⟩ := cons d ds env h
      rcases h2 with h2 | h2
      · exact ⟨e1, h1, .inl ⟨e2, h2, h3⟩⟩
      · exact ⟨e1, h1, .inr (.inl ⟨e2, h2, h3⟩)⟩) ds env h
  exact ⟨e', by rw [h1, h2], h3⟩
theorem upTo_mem : ∀ {n : Nat} {lo : Int} {d : D}, d ∈ upTo lo n → ∃ x : Int, d = .int x ∧ lo ≤ x ∧ x < lo + n
  | 0, lo, d, h => by cases h
  | n + 1, lo, d, h => by
    rcases List.mem_cons.mp h with h | h
    · exact ⟨lo, h, by omega, by omega⟩
    · obtain ⟨x, e, h1, h2⟩ := upTo_mem h
      exact ⟨x, e, by omega, by omega⟩
/-- a loop that no turn leaves, each turn alike -/
theorem for_each {p : Pat} {body : P} (I : Env → Prop) (ds : List D)
    (cons : ∀ d env, d ∈ ds → I env → ∃ e1, bindPat p d env = some e1 ∧ ∃ e2, (body e1 = some (.nx, e2) ∨ body e1 = some (.ct, e2)) ∧ I e2)
    (env : Env) (h : I env) : ∃ e', forL p body ds env = some (.nx, e') ∧ I e' := by
  obtain ⟨e', h1, h2, _⟩ := for_all (p := p) (body := body) (fun l e => I e ∧ ∀ d ∈ l, d ∈ ds) (fun d l env h => by
    obtain ⟨e1, q1, e2, q2, q3⟩ := cons d env (h.2 d List.mem_cons_self) h.1
    exact ⟨e1, q1, e2, q2, q3, fun x hx => h.2 x (List.mem_cons_of_mem _ hx)⟩) ds env ⟨h, fun _ h => h⟩
  exact ⟨e', h1, h2⟩
theorem comp_rule {p : Pat} {vs : List Nat} {t : T} {m : E} (I : List D → List D → Env → Prop)
    (step : ∀ d ds acc env, I (d :: ds) acc env → ∃ e1 b e2, bindPat p d env = some e1 ∧ t e1 = some (b, e2) ∧ (b = true → ∃ r e3, m e2 = some (r, e3) ∧ acc.length < sizeLine ∧ I ds (acc ++ [r]) (clear vs e3)) ∧ (b = false → I ds acc (clear vs e2))) :
    ∀ (ds acc : List D) (env : Env), I ds acc env → ∃ acc' env', compL p vs t m ds acc env = some (.list acc', env') ∧ I [] acc' env'
  | [], acc, env, h => ⟨acc, env, rfl, h⟩
  | d :: ds, acc, env, h => by
    obtain ⟨e1, b, e2, h1, h2, h3, h4⟩ := step d ds acc env h
    cases b with
    | true =>
      obtain ⟨r, e3, k1, k2, k3⟩ := h3 rfl
      obtain ⟨a', e', q1, q2⟩ := comp_rule I step ds _ _ k3
      exact ⟨a', e', by simp only [compL, h1, Option.bind_some, h2, if_true, k1, if_pos k2]; exact q1, q2⟩
    | false =>
      obtain ⟨a', e', q1, q2⟩ := comp_rule I step ds _ _ (h4 rfl)
      exact ⟨a', e', by simp only [compL, h1, Option.bind_some, h2]; simpa using q1, q2⟩
theorem comp_at {it : I} {p : Pat} {vs : List Nat} {t : T} {m : E} {env env1 env2 : Env} {ds : List D} {d : D} (h1 : it env = some (ds, env1)) (h2 : datas vs env1 = true) (h3 : inVs p vs env1.length = true)
    (h4 : compL p vs t m ds [] (clear vs env1) = some (d, env2)) : eComp it p vs t m env = some (d, restore vs env1 env2) := by
  unfold eComp
  rw [h1, Option.bind_some]
  show (if datas vs env1 = true ∧ inVs p vs env1.length = true then _ else none) = _
  rw [if_pos ⟨h2, h3⟩, h4]
  rfl
/-- a slot that holds no object -/
def dat : Option S → Bool
  | some (.l _ _) => false
  | some (.m _ _) => false
  | _ => true
end DL
/-! Plain evaluation, 2: chains, comprehensions, slices. -/
namespace DL
open PySem L2 PyProof.Rows
section
variable {env env0 : Env} {i j n : Nat} {m : E} {t : T} {p : Pat} {vs : List Nat} {d : D} {ds acc : List D} {it : I} {o1 o2 o3 : Opd} {f g : D → D → Option D}
@[simp] theorem ev_chain : eChain f g o1 o2 o3 env = (runOpd o1 env).bind fun x => (runOpd o2 x.2).bind fun y => (x.1.get y.2).bind fun dx => (y.1.get y.2).bind fun dy => match f dx dy with
  | some (.bool true) => (runOpd o3 y.2).bind fun z => (y.1.get z.2).bind fun dy' => (z.1.get z.2).bind fun dz => (g dy' dz).map fun d => (d, z.2)
  | some (.bool false) => some (.bool false, y.2)
  | _ => none := rfl
theorem ev_comp : eComp it p vs t m env = (it env).bind fun a => if datas vs a.2 = true ∧ inVs p vs a.2.length = true then (compL p vs t m a.1 [] (clear vs a.2)).map fun r => (r.1, restore vs a.2 r.2) else none := rfl
@[simp] theorem ev_compL0 : compL p vs t m [] acc env = some (.list acc, env) := rfl
theorem ev_compL1 : compL p vs t m (d :: ds) acc env = (bindPat p d env).bind fun env1 => (t env1).bind fun b =>
    if b.1 = true then (m b.2).bind fun r => if acc.length < sizeLine then compL p vs t m ds (acc ++ [r.1]) (clear vs r.2) else none
    else compL p vs t m ds acc (clear vs b.2) := rfl
@[simp] theorem clear_one : clear [i] env = env.set i none := rfl
@[simp] theorem clear_two : clear [i, j] env = (env.set i none).set j none := rfl
@[simp] theorem restore_one : restore [i] env0 env = env.set i (env0[i]?.bind id) := rfl
@[simp] theorem restore_two : restore [i, j] env0 env = (env.set i (env0[i]?.bind id)).set j (env0[j]?.bind id) := rfl
@[simp] theorem inVs_one : inVs (.v i) [i] n = true := List.all_eq_true.mpr fun j _ => by
  unfold Pat.has
  by_cases h : i = j <;> simp [h]
@[simp] theorem inVs_two : inVs (.t [.v i, .v j]) [i, j] n = true := List.all_eq_true.mpr fun k _ => by
  simp only [Pat.has, Pat.hasL]
  by_cases h : i = k
  · simp [h]
  · by_cases h2 : j = k
    · simp [h2]
    · simp [h, h2]
theorem datas_one : datas [i] env = (match env[i]? with
  | some (some (.l _ _)) => false
  | some (some (.m _ _)) => false
  | _ => true) := Bool.and_true _
@[simp] theorem lt_sizeLine {n : Nat} (h : n < 1000000) : n < sizeLine := Nat.lt_of_lt_of_le h sizeLine_big
@[simp] theorem le_sizeLine {n : Nat} (h : n ≤ 1000000) : n ≤ sizeLine := Nat.le_trans h sizeLine_big
theorem boolsD_map (bs : List Bool) : boolsD (bs.map .bool) = some bs := by
  induction bs with
  | nil => rfl
  | cons b bs ih => show (boolsD (bs.map .bool)).map _ = _; rw [ih]; rfl
theorem ev_all (bs : List Bool) : aAll [.list (bs.map .bool)] = some (.bool (bs.all id)) := by
  show (boolsD (bs.map .bool)).map _ = _; rw [boolsD_map]; rfl
theorem ev_any (bs : List Bool) : aAny [.list (bs.map .bool)] = some (.bool (bs.any id)) := by
  show (boolsD (bs.map .bool)).map _ = _; rw [boolsD_map]; rfl
theorem intsD_map (ns : List Int) : intsD (ns.map .int) = some ns := by
  induction ns with
  | nil => rfl
  | cons b bs ih => show (intsD (bs.map .int)).map _ = _; rw [ih]; rfl
theorem ev_sum (ns : List Int) : aSum [.list (ns.map .int)] = some (.int ns.sum) := by
  show (intsD (ns.map .int)).map _ = _; rw [intsD_map]; rfl
@[simp] theorem ev_all2 {x y : Bool} : aAll [.list [.bool x, .bool y]] = some (.bool (x && y)) := by
  have := ev_all [x, y]; simpa using this
theorem set_get_self {env : Env} {i : Nat} (h : i < env.length) : (env.set i none).set i (env[i]?.bind id) = env := by
  rw [List.set_set]
  refine List.ext_getElem? fun j => ?_
  rw [getElem?_set']
  by_cases e : i = j
  · subst e
    rw [if_pos rfl, if_pos h, List.getElem?_eq_getElem h]
    rfl
  · rw [if_neg e]
/-- a comprehension whose test and element leave the frame as it is -/
theorem comp_pure {it : I} {i : Nat} {t : T} {m : E} {env : Env} {ds : List D} {P : D → Bool} {f : D → D} (h1 : it env = some (ds, env)) (hi : i < env.length) (hd : datas [i] env = true) (hl : ds.length ≤ sizeLine)
    (ht : ∀ d ∈ ds, t (env.set i (some (.d d))) = some (P d, env.set i (some (.d d)))) (hm : ∀ d ∈ ds, P d = true → m (env.set i (some (.d d))) = some (f d, env.set i (some (.d d)))) :
    eComp it (.v i) [i] t m env = some (.list ((ds.filter P).map f), env) := by
  have key : ∀ (rest acc : List D), (∀ d ∈ rest, d ∈ ds) → acc.length + rest.length ≤ sizeLine → compL (.v i) [i] t m rest acc (env.set i none) = some (.list (acc ++ (rest.filter P).map f), env.set i none) := by
    intro rest
    induction rest with
    | nil => intro acc _ _; simp
    | cons d rest ih =>
      intro acc hin hlen
      rw [List.length_cons] at hlen
      have hd' := hin d List.mem_cons_self
      have b1 : bindPat (.v i) d (env.set i none) = some (env.set i (some (.d d))) := by
        simp [hi]
      rw [ev_compL1, b1, Option.bind_some, ht d hd', Option.bind_some]
      have c1 : clear [i] (env.set i (some (S.d d))) = env.set i none := by simp
      cases hp : P d with
      | true =>
        rw [if_pos rfl, hm d hd' hp, Option.bind_some, if_pos (by omega)]
        show compL _ _ _ _ rest (acc ++ [f d]) (clear [i] (env.set i (some (S.d d)))) = _
        rw [c1, ih _ (fun x hx => hin x (List.mem_cons_of_mem _ hx)) (by rw [List.length_append]; simp; omega), List.filter_cons, if_pos hp]
        simp
      | false =>
        rw [if_neg Bool.false_ne_true]
        show compL _ _ _ _ rest acc (clear [i] (env.set i (some (S.d d)))) = _
        rw [c1, ih _ (fun x hx => hin x (List.mem_cons_of_mem _ hx)) (by omega), List.filter_cons, if_neg (by rw [hp]; simp)]
  refine (comp_at h1 hd inVs_one (key ds [] (fun _ h => h) (by simpa using hl))).trans ?_
  rw [restore_one, set_get_self hi]
  simp
@[simp] theorem ev_mutL {g : List D → List D → Option (D × List D)} {ms : List E} : eMutL i g ms env = if (wList env i).isSome = true then (runOpds (allE ms) env).bind fun a => (getAll a.2 a.1).bind fun ds => (wList a.2 i).bind fun w => (g w.2 ds).map fun r => (r.1, a.2.set i (some (.l w.1 r.2))) else none := rfl
@[simp] theorem ev_append {xs : List D} {d : D} : gAppend xs [d] = if xs.length < sizeLine then some (.none, xs ++ [d]) else none := rfl
@[simp] theorem ev_extend {xs ys : List D} : gExtend xs [.list ys] = if xs.length + ys.length ≤ sizeLine then some (.none, xs ++ ys) else none := rfl
@[simp] theorem ev_addLL {xs ys : List D} (h : xs.length + ys.length ≤ 1000000) : aAdd (.list xs) (.list ys) = some (.list (xs ++ ys)) := if_pos (Nat.le_trans h sizeLine_big)
@[simp] theorem ev_catLL {xs ys : List D} (h : xs.length + ys.length ≤ 1000000) : aCat (.list xs) (.list ys) = some (.list (xs ++ ys)) := if_pos (Nat.le_trans h sizeLine_big)
end
end DL
/-! Nets of whole vectors, in plain arithmetic. -/
namespace Lat
/-- the places of the net that (a, 0) and (b, c) span -/
def In2 (a b c x y : Int) : Prop := ∃ r s, x = r * a + s * b ∧ y = s * c
def In3 (a l0 l1 h0 h1 x y : Int) : Prop := ∃ r s t, x = r * a + s * l0 + t * h0 ∧ y = s * l1 + t * h1
/-- one more vector -/
def Ad (L : Int → Int → Prop) (u0 u1 x y : Int) : Prop := ∃ t x' y', L x' y' ∧ x = x' + t * u0 ∧ y = y' + t * u1
/-- the places of the net of two vectors -/
def InN (a b c d x y : Int) : Prop := ∃ r s, x = r * a + s * c ∧ y = r * b + s * d
theorem in3_start {a l0 l1 u0 u1 x y : Int} : In3 a l0 l1 u0 u1 x y ↔ Ad (In2 a l0 l1) u0 u1 x y := by
  constructor
  · rintro ⟨r, s, t, h1, h2⟩
    exact ⟨t, r * a + s * l0, s * l1, ⟨r, s, rfl, rfl⟩, h1, h2⟩
  · rintro ⟨t, x', y', ⟨r, s, e1, e2⟩, h1, h2⟩
    exact ⟨r, s, t, by omega, by omega⟩
theorem in3_step {a l0 l1 h0 h1 f x y : Int} : In3 a h0 h1 (l0 - f * h0) (l1 - f * h1) x y ↔ In3 a l0 l1 h0 h1 x y := by
  constructor
  · rintro ⟨r, s, t, e1, e2⟩
    exact ⟨r, t, s - t * f, by grind, by grind⟩
  · rintro ⟨r, s, t, e1, e2⟩
    exact ⟨r, t + s * f, s, by grind, by grind⟩
theorem nat_bez : ∀ (m n : Nat), ∃ x y : Int, ((Nat.gcd m n : Nat) : Int) = m * x + n * y := fun m n => by
  induction m, n using Nat.gcd.induction with
  | H0 n => exact ⟨0, 1, by simp⟩
  | H1 m n hm ih =>
    obtain ⟨x, y, e⟩ := ih
    rw [Nat.gcd_rec, e]
    refine ⟨y - (n / m : Nat) * x, x, ?_⟩
    have q : (n : Int) = (m : Int) * (n / m : Nat) + (n % m : Nat) := by
      have := Nat.div_add_mod n m
      omega
    grind
theorem int_bez (a b : Int) : ∃ x y : Int, ((Nat.gcd a.natAbs b.natAbs : Nat) : Int) = a * x + b * y := by
  obtain ⟨x, y, e⟩ := nat_bez a.natAbs b.natAbs
  have h : ∀ z w : Int, ∃ w', (z.natAbs : Int) * w = z * w' := fun z w => by
    rcases Int.natAbs_eq z with q | q
    · exact ⟨w, by rw [← q]⟩
    · exact ⟨-w, by rw [Int.mul_neg, ← Int.neg_mul]; congr 1; omega⟩
  obtain ⟨x', h1⟩ := h a x
  obtain ⟨y', h2⟩ := h b y
  exact ⟨x', y', by omega⟩
theorem gcd_dvd_l (a b : Int) : ∃ k, a = k * ((Nat.gcd a.natAbs b.natAbs : Nat) : Int) := by
  have h : ((Nat.gcd a.natAbs b.natAbs : Nat) : Int) ∣ a := Int.natAbs_dvd_natAbs.mp (by rw [Int.natAbs_natCast]; exact Nat.gcd_dvd_left _ _)
  obtain ⟨k, e⟩ := h
  exact ⟨k, by rw [Int.mul_comm]; exact e⟩
theorem gcd_dvd_r (a b : Int) : ∃ k, b = k * ((Nat.gcd a.natAbs b.natAbs : Nat) : Int) := by
  have h : ((Nat.gcd a.natAbs b.natAbs : Nat) : Int) ∣ b := Int.natAbs_dvd_natAbs.mp (by rw [Int.natAbs_natCast]; exact Nat.gcd_dvd_right _ _)
  obtain ⟨k, e⟩ := h
  exact ⟨k, by rw [Int.mul_comm]; exact e⟩
theorem in3_end {a l0 l1 h0 x y : Int} : In3 a l0 l1 h0 0 x y ↔ In2 ((Nat.gcd a.natAbs h0.natAbs : Nat) : Int) l0 l1 x y := by
  obtain ⟨k1, e1⟩ := gcd_dvd_l a h0
  obtain ⟨k2, e2⟩ := gcd_dvd_r a h0
  obtain ⟨u, v, e3⟩ := int_bez a h0
  generalize ((Nat.gcd a.natAbs h0.natAbs : Nat) : Int) = g at *
  constructor
  · rintro ⟨r, s, t, h1, h2⟩
    exact ⟨r * k1 + t * k2, s, by grind, by grind⟩
  · rintro ⟨r, s, h1, h2⟩
    exact ⟨r * u, s, r * v, by grind, by grind⟩
theorem in2_neg {a l0 l1 x y : Int} : In2 a (-l0) (-l1) x y ↔ In2 a l0 l1 x y := by
  constructor
  · rintro ⟨r, s, e1, e2⟩
    exact ⟨r, -s, by grind, by grind⟩
  · rintro ⟨r, s, e1, e2⟩
    exact ⟨r, -s, by grind, by grind⟩
theorem in2_mod {a l0 l1 x y : Int} : In2 a (l0 % a) l1 x y ↔ In2 a l0 l1 x y := by
  have e := Int.emod_add_mul_ediv l0 a
  constructor
  · rintro ⟨r, s, e1, e2⟩
    exact ⟨r - s * (l0 / a), s, by grind, e2⟩
  · rintro ⟨r, s, e1, e2⟩
    exact ⟨r + s * (l0 / a), s, by grind, e2⟩
theorem Ad.congr {L M : Int → Int → Prop} (h : ∀ x y, L x y ↔ M x y) {u0 u1 x y : Int} : Ad L u0 u1 x y ↔ Ad M u0 u1 x y :=
  ⟨fun ⟨t, x', y', q, e⟩ => ⟨t, x', y', (h _ _).mp q, e⟩, fun ⟨t, x', y', q, e⟩ => ⟨t, x', y', (h _ _).mpr q, e⟩⟩
theorem ad2 {a b c d x y : Int} : Ad (Ad (In2 0 0 0) a b) c d x y ↔ InN a b c d x y := by
  constructor
  · rintro ⟨t, x', y', ⟨s, x2, y2, ⟨r1, r2, e1, e2⟩, e3, e4⟩, e5, e6⟩
    exact ⟨s, t, by grind, by grind⟩
  · rintro ⟨r, s, e1, e2⟩
    exact ⟨s, r * a, r * b, ⟨r, 0, 0, ⟨0, 0, by simp, by simp⟩, by simp, by simp⟩, e1, e2⟩
/-- the cross of two places of a net is a multiple of its area -/
theorem in2_cross {a b c x y z w : Int} (h1 : In2 a b c x y) (h2 : In2 a b c z w) : ∃ k, x * w - y * z = k * (a * c) := by
  obtain ⟨r, s, rfl, rfl⟩ := h1
  obtain ⟨t, u, rfl, rfl⟩ := h2
  exact ⟨r * u - s * t, by grind⟩
theorem inN_cross {a b c d x y z w : Int} (h1 : InN a b c d x y) (h2 : InN a b c d z w) : ∃ k, x * w - y * z = k * (a * d - b * c) := by
  obtain ⟨r, s, rfl, rfl⟩ := h1
  obtain ⟨t, u, rfl, rfl⟩ := h2
  exact ⟨r * u - s * t, by grind⟩
theorem inN_one {a b c d : Int} : InN a b c d a b := ⟨1, 0, by simp, by simp⟩
theorem inN_two {a b c d : Int} : InN a b c d c d := ⟨0, 1, by simp, by simp⟩
theorem in2_one {a b c : Int} : In2 a b c a 0 := ⟨1, 0, by simp, by simp⟩
theorem in2_two {a b c : Int} : In2 a b c b c := ⟨0, 1, by simp, by simp⟩
/-- Cramer: a place is of the net if the area divides both crosses -/
theorem inN_iff {a b c d x y : Int} (h : a * d - b * c ≠ 0) : InN a b c d x y ↔ (a * d - b * c) ∣ (x * d - y * c) ∧ (a * d - b * c) ∣ (a * y - b * x) := by
  constructor
  · rintro ⟨r, s, rfl, rfl⟩
    exact ⟨⟨r, by grind⟩, ⟨s, by grind⟩⟩
  · rintro ⟨⟨r, e1⟩, ⟨s, e2⟩⟩
    refine ⟨r, s, Int.eq_of_mul_eq_mul_left h ?_, Int.eq_of_mul_eq_mul_left h ?_⟩
    · grind
    · grind
/-- .. the form's own way -/
theorem in2_iff {a b c x y : Int} (ha : a ≠ 0) (hc : c ≠ 0) : In2 a b c x y ↔ c ∣ y ∧ a ∣ (x - y / c * b) := by
  constructor
  · rintro ⟨r, s, rfl, rfl⟩
    rw [Int.mul_ediv_cancel _ hc]
    exact ⟨⟨s, Int.mul_comm _ _⟩, ⟨r, by grind⟩⟩
  · rintro ⟨⟨s, rfl⟩, ⟨r, e⟩⟩
    rw [Int.mul_ediv_cancel_left _ hc] at e
    exact ⟨r, s, by grind, by grind⟩
/-- the area of a form of a net -/
theorem form_area {a b c d p q s : Int} (h : ∀ x y, In2 p q s x y ↔ InN a b c d x y) : (p * s).natAbs = (a * d - b * c).natAbs := by
  obtain ⟨k, e1⟩ := in2_cross ((h _ _).mpr inN_one) ((h _ _).mpr inN_two)
  obtain ⟨m, e2⟩ := inN_cross ((h _ _).mp in2_one) ((h _ _).mp in2_two)
  have e3 : p * s = m * (a * d - b * c) := by rw [← e2]; simp
  have d1 : (p * s) ∣ (a * d - b * c) := ⟨k, by rw [e1, Int.mul_comm]⟩
  have d2 : (a * d - b * c) ∣ (p * s) := ⟨m, by rw [e3, Int.mul_comm]⟩
  exact Nat.dvd_antisymm (Int.natAbs_dvd_natAbs.mpr d1) (Int.natAbs_dvd_natAbs.mpr d2)
end Lat
/-! Reduced pairs, in plain arithmetic. -/
namespace Lat
/-- the near multiple that is taken away -/
def near (A B : Int) : Int := (2 * B + A) / (2 * A)
theorem near_spec {A B : Int} (h : 0 < A) : 2 * (near A B * A) ≤ 2 * B + A ∧ 2 * B + A < 2 * (near A B * A) + 2 * A := by
  unfold near
  have h1 := Int.emod_add_mul_ediv (2 * B + A) (2 * A)
  have h2 := Int.emod_nonneg (2 * B + A) (show 2 * A ≠ 0 by omega)
  have h3 := Int.emod_lt_of_pos (2 * B + A) (show 0 < 2 * A by omega)
  have h4 : 2 * A * ((2 * B + A) / (2 * A)) = 2 * ((2 * B + A) / (2 * A) * A) := by grind
  omega
theorem near_zero {A B : Int} (h : 0 < A) (z : near A B = 0) : -A ≤ 2 * B ∧ 2 * B < A := by
  have := near_spec (B := B) h
  rw [z] at this
  omega
/-- the size behind a step: less, or as it was and the inner product no more above nought -/
theorem near_less {A B C : Int} (h : 0 < A) (z : near A B ≠ 0) : C - 2 * near A B * B + near A B * near A B * A < C ∨ (C - 2 * near A B * B + near A B * near A B * A = C ∧ 0 < B ∧ B - near A B * A < 0) := by
  obtain ⟨h1, h2⟩ := near_spec (B := B) h
  generalize near A B = f at *
  have e : C - 2 * f * B + f * f * A = C - f * (2 * B - f * A) := by grind
  rw [e]
  rcases Int.lt_or_gt_of_ne z with hf | hf
  · left
    have k : 0 ≤ (-1 - f) * A := Int.mul_nonneg (by omega) (by omega)
    have k2 : (-1 - f) * A = -A - f * A := by grind
    have k3 : 0 < f * (2 * B - f * A) := Int.mul_pos_of_neg_of_neg hf (by omega)
    omega
  · by_cases hf1 : f = 1
    · subst hf1
      simp only [Int.one_mul] at *
      omega
    · left
      have k : 0 ≤ (f - 2) * A := Int.mul_nonneg (by omega) (by omega)
      have k2 : (f - 2) * A = f * A - 2 * A := by grind
      have k3 : 0 < f * (2 * B - f * A) := Int.mul_pos hf (by omega)
      omega
theorem inN_swap {a b c d x y : Int} : InN c d a b x y ↔ InN a b c d x y :=
  ⟨fun ⟨r, s, e1, e2⟩ => ⟨s, r, by omega, by omega⟩, fun ⟨r, s, e1, e2⟩ => ⟨s, r, by omega, by omega⟩⟩
theorem inN_step {a b c d f x y : Int} : InN a b (c - f * a) (d - f * b) x y ↔ InN a b c d x y := by
  constructor
  · rintro ⟨r, s, e1, e2⟩
    exact ⟨r - s * f, s, by grind, by grind⟩
  · rintro ⟨r, s, e1, e2⟩
    exact ⟨r + s * f, s, by grind, by grind⟩
theorem inN_area {a b c d p q r s : Int} (h : ∀ x y, InN p q r s x y ↔ InN a b c d x y) : (p * s - q * r).natAbs = (a * d - b * c).natAbs := by
  obtain ⟨k, e1⟩ := inN_cross ((h _ _).mpr inN_one) ((h _ _).mpr inN_two)
  obtain ⟨m, e2⟩ := inN_cross ((h _ _).mp inN_one) ((h _ _).mp inN_two)
  have d1 : (p * s - q * r) ∣ (a * d - b * c) := ⟨k, by rw [e1, Int.mul_comm]⟩
  have d2 : (a * d - b * c) ∣ (p * s - q * r) := ⟨m, by rw [e2, Int.mul_comm]⟩
  exact Nat.dvd_antisymm (Int.natAbs_dvd_natAbs.mpr d1) (Int.natAbs_dvd_natAbs.mpr d2)
theorem sq_nonneg (x : Int) : 0 ≤ x * x := by
  rcases Int.le_total 0 x with h | h
  · exact Int.mul_nonneg h h
  · exact Int.mul_nonneg_of_nonpos_of_nonpos h h
theorem sq_pos {x : Int} (h : x ≠ 0) : 0 < x * x := by
  rcases Int.lt_or_gt_of_ne h with h | h
  · exact Int.mul_pos_of_neg_of_neg h h
  · exact Int.mul_pos h h
theorem le_sq (x : Int) : (x.natAbs : Int) ≤ x * x := by
  by_cases h : x = 0
  · subst h; simp
  · rw [← Int.natAbs_mul_self]
    have : x.natAbs * 1 ≤ x.natAbs * x.natAbs := Nat.mul_le_mul_left _ (by omega)
    omega
/-- Lagrange -/
theorem lagr (x y z u : Int) : (x * u - y * z) * (x * u - y * z) = (x * x + y * y) * (z * z + u * u) - (x * z + y * u) * (x * z + y * u) := by grind
structure Red (x y z u : Int) : Prop where
  pos : 0 < x * x + y * y
  le : x * x + y * y ≤ z * z + u * u
  lo : -(x * x + y * y) ≤ 2 * (x * z + y * u)
  hi : 2 * (x * z + y * u) ≤ x * x + y * y
theorem abs_sq {b a : Int} (h1 : -a ≤ b) (h2 : b ≤ a) : b * b ≤ a * a := by
  have : 0 ≤ (a - b) * (a + b) := Int.mul_nonneg (by omega) (by omega)
  have e : (a - b) * (a + b) = a * a - b * b := by grind
  omega
theorem Red.size {x y z u : Int} (h : Red x y z u) : 3 * (x * x + y * y) * (x * x + y * y) ≤ 4 * (x * u - y * z).natAbs * (x * u - y * z).natAbs := by
  have e1 : (4 * ((x * u - y * z).natAbs : Int)) * ((x * u - y * z).natAbs : Int) = 4 * ((x * u - y * z) * (x * u - y * z)) := by
    rw [← Int.natAbs_mul_self (a := x * u - y * z)]; grind
  rw [e1, lagr]
  have k1 := abs_sq h.lo h.hi
  have k2 := h.pos
  have k3 : 0 ≤ (x * x + y * y) * (z * z + u * u - (x * x + y * y)) := Int.mul_nonneg (by omega) (by have := h.le; omega)
  generalize x * x + y * y = A at *
  generalize z * z + u * u = C at *
  generalize x * z + y * u = B at *
  have k4 : 2 * B * (2 * B) = 4 * (B * B) := by grind
  have k5 : A * (C - A) = A * C - A * A := by grind
  have k6 : 3 * A * A = 3 * (A * A) := by grind
  omega
/-- the size of a place of a reduced net -/
theorem Red.far {x y z u r s : Int} (h : Red x y z u) : (s ≠ 0 → z * z + u * u ≤ (r * x + s * z) * (r * x + s * z) + (r * y + s * u) * (r * y + s * u)) ∧ (r ≠ 0 ∨ s ≠ 0 → x * x + y * y ≤ (r * x + s * z) * (r * x + s * z) + (r * y + s * u) * (r * y + s * u)) := by
  have e : (r * x + s * z) * (r * x + s * z) + (r * y + s * u) * (r * y + s * u) = r * r * (x * x + y * y) + r * s * (2 * (x * z + y * u)) + s * s * (z * z + u * u) := by grind
  rw [e]
  have k1 := h.pos
  have k2 := h.le
  have k3 := h.lo
  have k4 := h.hi
  generalize x * x + y * y = A at *
  generalize z * z + u * u = C at *
  generalize 2 * (x * z + y * u) = B at *
  -- |r s B| ≤ |r||s| A
  have hr : (r.natAbs : Int) * (r.natAbs : Int) = r * r := by rw [← Int.natCast_mul]; exact Int.natAbs_mul_self
  have hs : (s.natAbs : Int) * (s.natAbs : Int) = s * s := by rw [← Int.natCast_mul]; exact Int.natAbs_mul_self
  have hB : -((r.natAbs * s.natAbs : Nat) * A) ≤ r * s * B := by
    have q1 : (r * s * B).natAbs ≤ r.natAbs * s.natAbs * A.natAbs := by
      rw [Int.natAbs_mul, Int.natAbs_mul]
      exact Nat.mul_le_mul_left _ (by omega)
    have q2 : ((r.natAbs * s.natAbs : Nat) * A) = ((r.natAbs * s.natAbs * A.natAbs : Nat) : Int) := by
      simp only [Int.natCast_mul]
      rw [Int.natAbs_of_nonneg (show 0 ≤ A by omega)]
    omega
  have hm : ((r.natAbs * s.natAbs : Nat) : Int) = (r.natAbs : Int) * (s.natAbs : Int) := Int.natCast_mul _ _
  rw [hm] at hB
  generalize hm' : (r.natAbs : Int) = m at *
  generalize hn' : (s.natAbs : Int) = n at *
  have m0 : 0 ≤ m := by omega
  have n0 : 0 ≤ n := by omega
  rw [← hr, ← hs]
  constructor
  · intro hs0
    have n1 : 1 ≤ n := by omega
    -- m m A - m n A + n n C ≥ C
    have t1 : 0 ≤ (n * n - 1) * (C - A) := Int.mul_nonneg (by have := Int.mul_le_mul n1 n1 (by decide) n0; omega) (by omega)
    have t2 : 0 ≤ (m * m - m * n + n * n - 1) * A := by
      refine Int.mul_nonneg ?_ (by omega)
      by_cases hm0 : m = 0
      · subst hm0
        have := Int.mul_le_mul n1 n1 (by decide) n0
        simp; omega
      · rcases Int.le_total m n with g | g
        · have g1 : 0 ≤ (n - m) * n := Int.mul_nonneg (by omega) n0
          have g2 : 1 * 1 ≤ m * m := Int.mul_le_mul (by omega) (by omega) (by decide) m0
          have g3 : (n - m) * n = n * n - m * n := by grind
          omega
        · have g1 : 0 ≤ (m - n) * m := Int.mul_nonneg (by omega) m0
          have g2 : 1 * 1 ≤ n * n := Int.mul_le_mul n1 n1 (by decide) n0
          have g3 : (m - n) * m = m * m - m * n := by grind
          omega
    grind
  · intro h0
    have t1 : 0 ≤ n * n * (C - A) := Int.mul_nonneg (Int.mul_nonneg n0 n0) (by omega)
    have t2 : 0 ≤ (m * m - m * n + n * n - 1) * A := by
      refine Int.mul_nonneg ?_ (by omega)
      by_cases hm0 : m = 0
      · subst hm0
        have g2 : 1 * 1 ≤ n * n := Int.mul_le_mul (by omega) (by omega) (by decide) n0
        simp; omega
      · rcases Int.le_total m n with g | g
        · have g1 : 0 ≤ (n - m) * n := Int.mul_nonneg (by omega) n0
          have g2 : 1 * 1 ≤ m * m := Int.mul_le_mul (by omega) (by omega) (by decide) m0
          have g3 : (n - m) * n = n * n - m * n := by grind
          omega
        · have g1 : 0 ≤ (m - n) * (m - n) := Int.mul_nonneg (by omega) (by omega)
          have g2 : 0 ≤ (m - n) * n := Int.mul_nonneg (by omega) n0
          have g3 : (m - n) * (m - n) = m * m - 2 * (m * n) + n * n := by grind
          have g4 : (m - n) * n = m * n - n * n := by grind
          have g5 : 1 * 1 ≤ m * m := Int.mul_le_mul (by omega) (by omega) (by decide) m0
          by_cases z : n = 0
          · subst z; simp at *; omega
          · have g6 : 1 * 1 ≤ n * n := Int.mul_le_mul (by omega) (by omega) (by decide) n0
            omega
    grind
end Lat
/-! Rows that meet: what two nets have in common, and what they span, in plain arithmetic. -/
namespace Lat
abbrev gc (a b : Int) : Int := ((Nat.gcd a.natAbs b.natAbs : Nat) : Int)
theorem gc_nonneg (a b : Int) : 0 ≤ gc a b := Int.natCast_nonneg _
theorem gc_pos {a b : Int} (h : a ≠ 0 ∨ b ≠ 0) : 0 < gc a b := by
  have : 0 < Nat.gcd a.natAbs b.natAbs := by
    rcases h with h | h
    · exact Nat.gcd_pos_of_pos_left _ (by omega)
    · exact Nat.gcd_pos_of_pos_right _ (by omega)
  unfold gc
  omega
theorem gc_l (a b : Int) : gc a b ∣ a := by
  obtain ⟨k, e⟩ := gcd_dvd_l a b
  exact ⟨k, by rw [Int.mul_comm]; exact e⟩
theorem gc_r (a b : Int) : gc a b ∣ b := by
  obtain ⟨k, e⟩ := gcd_dvd_r a b
  exact ⟨k, by rw [Int.mul_comm]; exact e⟩
theorem gc_bez (a b : Int) : ∃ x y, gc a b = a * x + b * y := int_bez a b
theorem dvd_gc {a b d : Int} (h1 : d ∣ a) (h2 : d ∣ b) : d ∣ gc a b := by
  obtain ⟨x, y, e⟩ := gc_bez a b
  rw [e]
  exact Int.dvd_add (Int.dvd_trans h1 (Int.dvd_mul_right _ _)) (Int.dvd_trans h2 (Int.dvd_mul_right _ _))
/-- the parts by the divisor are coprime -/
theorem cop {a p : Int} (h : 0 < gc a p) : ∃ x y, 1 = (a / gc a p) * x + (p / gc a p) * y := by
  obtain ⟨x, y, e⟩ := gc_bez a p
  have e1 := Int.ediv_mul_cancel (gc_l a p)
  have e2 := Int.ediv_mul_cancel (gc_r a p)
  refine ⟨x, y, Int.eq_of_mul_eq_mul_left (Int.ne_of_gt h) ?_⟩
  generalize gc a p = g at *
  generalize a / g = a' at *
  generalize p / g = p' at *
  subst e1
  grind
/-- x meets both rows -/
theorem meet_iff {a p f s : Int} (h : 0 < gc a p) : (∃ x, a ∣ x - f ∧ p ∣ x - s) ↔ gc a p ∣ s - f := by
  constructor
  · rintro ⟨x, h1, h2⟩
    have h3 := Int.dvd_sub (Int.dvd_trans (gc_l a p) h1) (Int.dvd_trans (gc_r a p) h2)
    have e : x - f - (x - s) = s - f := by omega
    rwa [e] at h3
  · rintro ⟨k, e⟩
    obtain ⟨x, y, e2⟩ := gc_bez a p
    exact ⟨f + a * (x * k), ⟨x * k, by omega⟩, ⟨-(y * k), by grind⟩⟩
/-- .. and how the program finds it -/
theorem meet_at {a p f s t : Int} (h : 0 < gc a p) (hd : gc a p ∣ s - f) (ht : (p / gc a p) ∣ t * (a / gc a p) - (s - f) / gc a p) : a ∣ (f + t * a) - f ∧ p ∣ (f + t * a) - s := by
  refine ⟨⟨t, by grind⟩, ?_⟩
  obtain ⟨k, e⟩ := hd
  obtain ⟨m, e2⟩ := ht
  have e1 := Int.ediv_mul_cancel (gc_l a p)
  have e3 := Int.ediv_mul_cancel (gc_r a p)
  rw [e, Int.mul_ediv_cancel_left _ (Int.ne_of_gt h)] at e2
  generalize gc a p = g at *
  generalize a / g = a' at *
  generalize p / g = p' at *
  exact ⟨m, by grind⟩
theorem dvd_mod {a m x y : Int} (h : a ∣ m) : a ∣ (x % m) - y ↔ a ∣ x - y := by
  have e := Int.emod_add_mul_ediv x m
  have h2 : a ∣ m * (x / m) := Int.dvd_trans h (Int.dvd_mul_right _ _)
  have e3 : x - y = (x % m - y) + m * (x / m) := by omega
  rw [e3]
  exact ⟨fun q => Int.dvd_add q h2, fun q => by
    have := Int.dvd_sub q h2
    rwa [Int.add_sub_cancel] at this⟩
/-- the steps: a number whose product with the one part leaves the quotient -/
theorem steps_ok {a' p' q u : Int} (hu : p' ∣ a' * u - 1) : p' ∣ (q * u % p') * a' - q := by
  have e := Int.emod_add_mul_ediv (q * u) p'
  obtain ⟨m, e2⟩ := hu
  refine ⟨q * m - (q * u / p') * a', ?_⟩
  have : q * u % p' = q * u - p' * (q * u / p') := by omega
  rw [this]
  grind
/-! ### undone: the far part of Euclid's walk -/
structure Und (n m r0 r1 s0 s1 : Int) : Prop where
  p0 : 0 ≤ r0
  p1 : 0 ≤ r1
  c0 : m ∣ r0 - s0 * n
  c1 : m ∣ r1 - s1 * n
  g : gc r0 r1 = gc n m
  w : r0 * s1.natAbs + r1 * s0.natAbs ≤ m
  b0 : s0.natAbs ≤ m
  b1 : s1.natAbs ≤ m
theorem nat_gcd_mod (a b : Nat) : Nat.gcd (a % b) b = Nat.gcd a b := by
  rw [Nat.gcd_comm (a % b) b, Nat.gcd_comm a b, Nat.gcd_rec b a, Nat.gcd_comm (a % b) b]
theorem gc_mod (n m : Int) : gc (n % m) m = gc n m := by
  have h1 : gc (n % m) m ∣ gc n m := dvd_gc (by
    have e := Int.emod_add_mul_ediv n m
    have h := Int.dvd_add (gc_l (n % m) m) (Int.dvd_trans (gc_r (n % m) m) (Int.dvd_mul_right m (n / m)))
    rwa [e] at h) (gc_r _ _)
  have h2 : gc n m ∣ gc (n % m) m := dvd_gc (by
    have e := Int.emod_add_mul_ediv n m
    have h := Int.dvd_sub (gc_l n m) (Int.dvd_trans (gc_r n m) (Int.dvd_mul_right m (n / m)))
    have e2 : n - m * (n / m) = n % m := by omega
    rwa [e2] at h) (gc_r _ _)
  exact Int.dvd_antisymm (gc_nonneg _ _) (gc_nonneg _ _) h1 h2
theorem Und.start {n m : Int} (h : 0 < m) : Und n m (n % m) m 1 0 where
  p0 := Int.emod_nonneg _ (by omega)
  p1 := by omega
  c0 := by
    have e := Int.emod_add_mul_ediv n m
    exact ⟨-(n / m), by grind⟩
  c1 := ⟨1, by simp⟩
  g := gc_mod n m
  w := by simp
  b0 := by simp; omega
  b1 := by simp; omega
theorem Und.step {n m r0 r1 s0 s1 : Int} (h : Und n m r0 r1 s0 s1) (hr : 0 < r1) : Und n m r1 (r0 - r0 / r1 * r1) s1 (s0 - r0 / r1 * s1) ∧ r0 - r0 / r1 * r1 < r1 := by
  have e := Int.emod_add_mul_ediv r0 r1
  have e1 : r0 - r0 / r1 * r1 = r0 % r1 := by rw [Int.mul_comm]; omega
  have h1 := Int.emod_nonneg r0 (Int.ne_of_gt hr)
  have h2 := Int.emod_lt_of_pos r0 hr
  have hf : 0 ≤ r0 / r1 := Int.ediv_nonneg h.p0 h.p1
  have w1 : r1 * (s0 - r0 / r1 * s1).natAbs + (r0 - r0 / r1 * r1) * s1.natAbs ≤ m := by
    have k1 : ((s0 - r0 / r1 * s1).natAbs : Int) ≤ s0.natAbs + r0 / r1 * s1.natAbs := by
      have : (s0 - r0 / r1 * s1).natAbs ≤ s0.natAbs + (r0 / r1 * s1).natAbs := by omega
      rw [Int.natAbs_mul] at this
      have q : ((r0 / r1).natAbs : Int) = r0 / r1 := Int.natAbs_of_nonneg hf
      have : ((s0 - r0 / r1 * s1).natAbs : Int) ≤ ((s0.natAbs + (r0 / r1).natAbs * s1.natAbs : Nat) : Int) := Int.ofNat_le.mpr this
      rw [Int.natCast_add, Int.natCast_mul, q] at this
      exact this
    have k2 := Int.mul_le_mul_of_nonneg_left k1 h.p1
    have k3 : r1 * (s0.natAbs + r0 / r1 * s1.natAbs) + (r0 - r0 / r1 * r1) * s1.natAbs = r0 * s1.natAbs + r1 * s0.natAbs := by grind
    have := h.w
    omega
  refine ⟨⟨h.p1, by omega, h.c1, ?_, ?_, w1, h.b1, ?_⟩, by omega⟩
  · obtain ⟨x, q1⟩ := h.c0
    obtain ⟨y, q2⟩ := h.c1
    exact ⟨x - r0 / r1 * y, by grind⟩
  · rw [← h.g, e1]
    have k : gc r1 (r0 % r1) = gc (r0 % r1) r1 := by unfold gc; rw [Nat.gcd_comm]
    rw [k, gc_mod]
  · have k1 : 1 * ((s0 - r0 / r1 * s1).natAbs : Int) ≤ r1 * (s0 - r0 / r1 * s1).natAbs := Int.mul_le_mul_of_nonneg_right (by omega) (by omega)
    have k2 : 0 ≤ (r0 - r0 / r1 * r1) * (s1.natAbs : Int) := Int.mul_nonneg (by omega) (by omega)
    omega
theorem Und.last {n m r0 s0 s1 : Int} (h : Und n m r0 0 s0 s1) (hg : gc n m = 1) : m ∣ n * (s0 % m) - 1 := by
  have h0 : r0 = 1 := by
    have g := h.g
    rw [hg] at g
    have : gc r0 0 = r0 := by unfold gc; simp; have := h.p0; omega
    omega
  subst h0
  have e := Int.emod_add_mul_ediv s0 m
  obtain ⟨x, q⟩ := h.c0
  refine ⟨-x - n * (s0 / m), ?_⟩
  have e2 : s0 % m = s0 - m * (s0 / m) := by omega
  rw [e2]
  grind
end Lat
/-! The common net and the net of sums, in plain arithmetic. -/
namespace Lat
theorem lcm_dvd {c s y : Int} (h : 0 < gc c s) (h1 : c ∣ y) (h2 : s ∣ y) : c * s / gc c s ∣ y := by
  obtain ⟨u, v, e⟩ := cop h
  have e1 := Int.ediv_mul_cancel (gc_l c s)
  have e2 := Int.ediv_mul_cancel (gc_r c s)
  have e3 : c * s / gc c s = c / gc c s * s := by
    rw [Int.mul_comm c s, Int.mul_ediv_assoc _ (gc_l c s), Int.mul_comm]
  rw [e3]
  obtain ⟨y1, q1⟩ := h1
  obtain ⟨y2, q2⟩ := h2
  generalize gc c s = g at *
  generalize c / g = c' at *
  generalize s / g = s' at *
  subst e1
  subst e2
  exact ⟨y2 * u + y1 * v, by grind⟩
theorem lcm_l {c s : Int} : c ∣ c * s / gc c s := by
  rw [Int.mul_ediv_assoc _ (gc_r c s)]
  exact Int.dvd_mul_right _ _
theorem lcm_r {c s : Int} : s ∣ c * s / gc c s := by
  rw [Int.mul_comm c s, Int.mul_ediv_assoc _ (gc_l c s)]
  exact Int.dvd_mul_right _ _
theorem cop_dvd {b d k : Int} (h : 0 < gc b d) (h1 : b ∣ k * d) : b / gc b d ∣ k := by
  obtain ⟨u, v, e⟩ := cop h
  have e1 := Int.ediv_mul_cancel (gc_l b d)
  have e2 := Int.ediv_mul_cancel (gc_r b d)
  obtain ⟨m, q⟩ := h1
  generalize gc b d = g at *
  generalize b / g = b' at *
  generalize d / g = d' at *
  have q2 : k * d' = b' * m := by
    refine Int.eq_of_mul_eq_mul_left (Int.ne_of_gt h) ?_
    grind
  exact ⟨k * u + m * v, by grind⟩
/-- the place lies in the net shifted by (f0, f1) -/
theorem in2_sub {a b c x y z w : Int} (h1 : In2 a b c x y) (h2 : In2 a b c z w) : In2 a b c (x - z) (y - w) := by
  obtain ⟨r, s, rfl, rfl⟩ := h1
  obtain ⟨t, u, rfl, rfl⟩ := h2
  exact ⟨r - t, s - u, by grind, by grind⟩
theorem in2_add {a b c x y z w : Int} (h1 : In2 a b c x y) (h2 : In2 a b c z w) : In2 a b c (x + z) (y + w) := by
  obtain ⟨r, s, rfl, rfl⟩ := h1
  obtain ⟨t, u, rfl, rfl⟩ := h2
  exact ⟨r + t, s + u, by grind, by grind⟩
theorem in2_mul {a b c x y k : Int} (h1 : In2 a b c x y) : In2 a b c (k * x) (k * y) := by
  obtain ⟨r, s, rfl, rfl⟩ := h1
  exact ⟨k * r, k * s, by grind, by grind⟩
theorem in2_row {a b c x : Int} (hc : c ≠ 0) : In2 a b c x 0 ↔ a ∣ x := by
  constructor
  · rintro ⟨r, s, rfl, e⟩
    have : s = 0 := by
      rcases Int.mul_eq_zero.mp e.symm with h | h
      · exact h
      · exact absurd h hc
    subst this
    exact ⟨r, by grind⟩
  · rintro ⟨r, rfl⟩
    exact ⟨r, 0, by grind, by simp⟩
/-- what the program's walk through two forms comes to -/
structure Com (a b c p r s : Int) where
  ha : 0 < a
  hc : 0 < c
  hp : 0 < p
  hs : 0 < s
abbrev stp (c s : Int) : Int := c * s / gc c s
abbrev dlt (b c r s : Int) : Int := stp c s / c * b - stp c s / s * r
abbrev rowOf (a b c p r s : Int) : Int := stp c s * (gc a p / gc (gc a p) (dlt b c r s))
theorem stp_pos {c s : Int} (hc : 0 < c) (hs : 0 < s) : 0 < stp c s := by
  have g := gc_pos (a := c) (b := s) (.inl (by omega))
  have e := Int.ediv_mul_cancel (Int.dvd_trans (gc_l c s) (Int.dvd_mul_right c s))
  have h : 0 < c * s := Int.mul_pos hc hs
  by_cases q : 0 < stp c s
  · exact q
  · have q := Int.not_lt.mp q
    have : c * s / gc c s * gc c s ≤ 0 := Int.mul_nonpos_of_nonpos_of_nonneg q (by omega)
    omega
theorem quo_pos {g d : Int} (hg : 0 < g) : 0 < g / gc g d ∧ g / gc g d ≤ g := by
  have k := gc_pos (a := g) (b := d) (.inl (by omega))
  have e := Int.ediv_mul_cancel (gc_l g d)
  have h0 : 0 < g / gc g d := by
    by_cases q : 0 < g / gc g d
    · exact q
    · have q := Int.not_lt.mp q
      have : g / gc g d * gc g d ≤ 0 := Int.mul_nonpos_of_nonpos_of_nonneg q (by omega)
      omega
  refine ⟨h0, ?_⟩
  have : g / gc g d * 1 ≤ g / gc g d * gc g d := Int.mul_le_mul_of_nonneg_left (by omega) (by omega)
  omega
theorem row_solv {a b c p r s k : Int} (h : Com a b c p r s) (hk : (gc a p / gc (gc a p) (dlt b c r s)) ∣ k) : gc a p ∣ (k * stp c s) / s * r - (k * stp c s) / c * b := by
  have g0 := gc_pos (a := a) (b := p) (.inl (by have := h.ha; omega))
  have e1 : k * stp c s / s = k * (stp c s / s) := Int.mul_ediv_assoc _ lcm_r
  have e2 : k * stp c s / c = k * (stp c s / c) := Int.mul_ediv_assoc _ lcm_l
  rw [e1, e2]
  have e3 : k * (stp c s / s) * r - k * (stp c s / c) * b = -(k * dlt b c r s) := by unfold dlt; grind
  rw [e3]
  obtain ⟨m, rfl⟩ := hk
  have q1 := Int.ediv_mul_cancel (gc_l (gc a p) (dlt b c r s))
  have q2 := Int.ediv_mul_cancel (gc_r (gc a p) (dlt b c r s))
  generalize gc (gc a p) (dlt b c r s) = h at *
  generalize gc a p / h = g' at *
  exact ⟨-(m * (dlt b c r s / h)), by grind⟩
theorem common_iff {a b c p r s left : Int} (h : Com a b c p r s) (h1 : a ∣ left - rowOf a b c p r s / c * b) (h2 : p ∣ left - rowOf a b c p r s / s * r) :
    ∀ x y, In2 (a * p / gc a p) left (rowOf a b c p r s) x y ↔ In2 a b c x y ∧ In2 p r s x y := by
  have ha := h.ha
  have hc := h.hc
  have hp := h.hp
  have hs := h.hs
  have st0 := stp_pos hc hs
  have g0 := gc_pos (a := a) (b := p) (.inl (by omega))
  have gk := quo_pos (d := dlt b c r s) g0
  have row0 : 0 < rowOf a b c p r s := Int.mul_pos st0 gk.1
  have c1 : c ∣ rowOf a b c p r s := Int.dvd_trans lcm_l (Int.dvd_mul_right _ _)
  have s1 : s ∣ rowOf a b c p r s := Int.dvd_trans lcm_r (Int.dvd_mul_right _ _)
  have L1 : In2 a b c left (rowOf a b c p r s) := (in2_iff (by omega) (by omega)).mpr ⟨c1, h1⟩
  have L2 : In2 p r s left (rowOf a b c p r s) := (in2_iff (by omega) (by omega)).mpr ⟨s1, h2⟩
  have M1 : In2 a b c (a * p / gc a p) 0 := (in2_row (by omega)).mpr lcm_l
  have M2 : In2 p r s (a * p / gc a p) 0 := (in2_row (by omega)).mpr lcm_r
  intro x y
  constructor
  · rintro ⟨k, m, rfl, rfl⟩
    refine ⟨?_, ?_⟩
    · have := in2_add (in2_mul (k := k) M1) (in2_mul (k := m) L1)
      simpa using this
    · have := in2_add (in2_mul (k := k) M2) (in2_mul (k := m) L2)
      simpa using this
  · rintro ⟨q1, q2⟩
    obtain ⟨y1, x1⟩ := (in2_iff (by omega) (by omega)).mp q1
    obtain ⟨y2, x2⟩ := (in2_iff (by omega) (by omega)).mp q2
    obtain ⟨k, e⟩ := lcm_dvd (gc_pos (a := c) (b := s) (.inl (by omega))) y1 y2
    have d1 := Int.dvd_sub (Int.dvd_trans (gc_l a p) x1) (Int.dvd_trans (gc_r a p) x2)
    have ey : y = k * stp c s := by rw [e, Int.mul_comm]
    have e1 : y / s = k * (stp c s / s) := by rw [ey]; exact Int.mul_ediv_assoc _ lcm_r
    have e2 : y / c = k * (stp c s / c) := by rw [ey]; exact Int.mul_ediv_assoc _ lcm_l
    have d2 : gc a p ∣ k * dlt b c r s := by
      have e3 : x - y / c * b - (x - y / s * r) = -(k * dlt b c r s) := by rw [e1, e2]; unfold dlt; grind
      rw [e3] at d1
      exact Int.dvd_neg.mp d1
    obtain ⟨m, e4⟩ := cop_dvd (gc_pos (.inl (by omega))) d2
    have ey2 : y = m * rowOf a b c p r s := by rw [ey, e4]; unfold rowOf; grind
    have N1 := in2_sub q1 (in2_mul (k := m) L1)
    have N2 := in2_sub q2 (in2_mul (k := m) L2)
    rw [ey2, Int.sub_self] at N1 N2
    obtain ⟨t, e5⟩ := lcm_dvd g0 ((in2_row (by omega)).mp N1) ((in2_row (by omega)).mp N2)
    exact ⟨t, m, by rw [Int.mul_comm t, ← e5]; omega, ey2⟩
/-- the places of sums -/
def Sum (L M : Int → Int → Prop) (x y : Int) : Prop := ∃ z w, L z w ∧ M (x - z) (y - w)
/-- a form of the sums -/
theorem sums_form (a b c p r s : Int) (h : Com a b c p r s) : ∃ q, ∀ x y, In2 (gc (gc a p) (dlt b c r s)) q (gc c s) x y ↔ Sum (In2 a b c) (In2 p r s) x y := by
  have hc := h.hc
  have hs := h.hs
  have g0 := gc_pos (a := c) (b := s) (.inl (by omega))
  have k1 : stp c s / c = s / gc c s := by
    unfold stp
    rw [Int.mul_ediv_assoc _ (gc_r c s), Int.mul_ediv_cancel_left _ (by omega)]
  have k2 : stp c s / s = c / gc c s := by
    unfold stp
    rw [Int.mul_comm c s, Int.mul_ediv_assoc _ (gc_l c s), Int.mul_ediv_cancel_left _ (by omega)]
  have hd : dlt b c r s = s / gc c s * b - c / gc c s * r := by unfold dlt; rw [k1, k2]
  obtain ⟨u, v, e⟩ := cop g0
  have e1 := Int.ediv_mul_cancel (gc_l c s)
  have e2 := Int.ediv_mul_cancel (gc_r c s)
  obtain ⟨x1, x2, b1⟩ := gc_bez (gc a p) (dlt b c r s)
  obtain ⟨x3, x4, b2⟩ := gc_bez a p
  obtain ⟨j1, f1⟩ := gc_l (gc a p) (dlt b c r s)
  obtain ⟨j2, f2⟩ := gc_r (gc a p) (dlt b c r s)
  obtain ⟨j3, f3⟩ := gc_l a p
  obtain ⟨j4, f4⟩ := gc_r a p
  generalize gc (gc a p) (dlt b c r s) = G at *
  generalize gc a p = ap at *
  generalize dlt b c r s = dl at *
  generalize gc c s = g at *
  generalize c / g = c' at *
  generalize s / g = s' at *
  subst e1
  subst e2
  subst hd
  refine ⟨u * b + v * r, fun x y => ⟨?_, ?_⟩⟩
  · rintro ⟨m, n, rfl, rfl⟩
    -- m (G, 0) + n (u (b, c) + v (r, s))
    refine ⟨m * (x1 * x3) * a + (m * x2 * s' + n * u) * b, (m * x2 * s' + n * u) * (c' * g), ⟨_, _, rfl, rfl⟩, ⟨m * (x1 * x4), n * v - m * x2 * c', ?_, ?_⟩⟩
    · grind
    · grind
  · rintro ⟨z, w, ⟨t1, t2, rfl, rfl⟩, ⟨t3, t4, q1, q2⟩⟩
    refine ⟨t1 * (j1 * j3) + t3 * (j1 * j4) + t2 * v * j2 - t4 * u * j2, t2 * c' + t4 * s', ?_, ?_⟩
    · have h1 : b - c' * (u * b + v * r) = v * (G * j2) := by
        have : b = (c' * u + s' * v) * b := by rw [← e, Int.one_mul]
        clear b1 b2 f1 f3 f4 k1 k2 h hc hs g0 q1 q2
        grind
      have h2 : r - s' * (u * b + v * r) = -(u * (G * j2)) := by
        have : r = (c' * u + s' * v) * r := by rw [← e, Int.one_mul]
        clear b1 b2 f1 f3 f4 k1 k2 h hc hs g0 q1 q2
        grind
      have h3 : a = G * j1 * j3 := by rw [f3, f1]
      have h4 : p = G * j1 * j4 := by rw [f4, f1]
      have h5 : x = t1 * a + t2 * b + t3 * p + t4 * r := by omega
      clear b1 b2 f1 f2 f3 f4 k1 k2 h hc hs g0 q1 q2 e
      rw [h5, h3, h4]
      grind
    · rw [Int.add_mul, Int.mul_assoc, Int.mul_assoc]; omega
end Lat
/-! Forms are told by their nets; areas of the common net and of the sums. -/
namespace Lat
theorem dvd_anti {a b : Int} (ha : 0 < a) (hb : 0 < b) (h1 : a ∣ b) (h2 : b ∣ a) : a = b :=
  Int.le_antisymm (Int.le_of_dvd hb h1) (Int.le_of_dvd ha h2)
theorem form_uniq {a b c p q s : Int} (ha : 0 < a) (hc : 0 < c) (hb : 0 ≤ b) (hb1 : b < a) (hp : 0 < p) (hs : 0 < s) (hq : 0 ≤ q) (hq1 : q < p)
    (h : ∀ x y, In2 a b c x y ↔ In2 p q s x y) : a = p ∧ b = q ∧ c = s := by
  have e1 : a = p := by
    refine dvd_anti ha hp ?_ ?_
    · exact (in2_row (by omega)).mp ((h p 0).mpr in2_one)
    · exact (in2_row (by omega)).mp ((h a 0).mp in2_one)
  have e2 : c = s := by
    refine dvd_anti hc hs ?_ ?_
    · exact ((in2_iff (by omega) (by omega)).mp ((h q s).mpr in2_two)).1
    · exact ((in2_iff (by omega) (by omega)).mp ((h b c).mp in2_two)).1
  subst e1
  subst e2
  refine ⟨rfl, ?_, rfl⟩
  have h1 := in2_sub ((h b c).mp in2_two) (in2_two (a := a) (b := q) (c := c))
  rw [Int.sub_self] at h1
  have h2 := (in2_row (by omega)).mp h1
  have h3 : (b - q) % a = 0 := Int.emod_eq_zero_of_dvd h2
  rcases Int.lt_trichotomy b q with z | z | z
  · have e : (b - q) % a = b - q + a := by
      have := Int.add_mul_emod_self_left (b - q) a 1
      rw [Int.mul_one] at this
      rw [← this]
      exact Int.emod_eq_of_lt (by omega) (by omega)
    omega
  · exact z
  · have e : (b - q) % a = b - q := Int.emod_eq_of_lt (by omega) (by omega)
    omega
/-- the area of the common net times that of the sums -/
theorem areas {p q s t r v A row B C : Int} (h : Com p q s t r v) (h1 : A * row = p * t / gc p t * rowOf p q s t r v) (hA : 0 < B) (hC : 0 < C) {D : Int} (hD : 0 ≤ D) (hD1 : D < B)
    (hs : ∀ x y, In2 B D C x y ↔ Sum (In2 p q s) (In2 t r v) x y) : A * row * (B * C) = p * s * (t * v) := by
  have hp := h.ha
  have hs0 := h.hc
  have ht := h.hp
  have hv := h.hs
  obtain ⟨k, hk⟩ := sums_form p q s t r v h
  have g0 : 0 < gc p t := gc_pos (.inl (by omega))
  have gs : 0 < gc s v := gc_pos (.inl (by omega))
  have gd : 0 < gc (gc p t) (dlt q s r v) := gc_pos (.inl (by omega))
  have key : ∀ x y, In2 B D C x y ↔ In2 (gc (gc p t) (dlt q s r v)) (k % gc (gc p t) (dlt q s r v)) (gc s v) x y := fun x y => by
    rw [hs, in2_mod, hk]
  obtain ⟨e1, _, e2⟩ := form_uniq hA hC hD hD1 gd gs (Int.emod_nonneg _ (by omega)) (Int.emod_lt_of_pos _ gd) key
  subst e1
  subst e2
  rw [h1]
  have q1 := Int.ediv_mul_cancel (Int.dvd_trans (gc_l p t) (Int.dvd_mul_right p t))
  have q2 := Int.ediv_mul_cancel (Int.dvd_trans (gc_l s v) (Int.dvd_mul_right s v))
  have q3 := Int.ediv_mul_cancel (gc_l (gc p t) (dlt q s r v))
  have q2' : stp s v * gc s v = s * v := q2
  clear q2 key hs h1
  unfold rowOf
  generalize gc (gc p t) (dlt q s r v) = gg at *
  generalize gc p t = g at *
  generalize gc s v = hh at *
  generalize p * t / g = A' at *
  generalize stp s v = B' at *
  generalize g / gg = C' at *
  have : A' * (B' * C') * (gg * hh) = (A' * (C' * gg)) * (B' * hh) := by grind
  rw [this, q3, q1, q2']
  grind
theorem inN_sub_of {a b c d e f g h : Int} (h1 : InN e f g h a b) (h2 : InN e f g h c d) : ∀ x y, InN a b c d x y → InN e f g h x y := by
  rintro x y ⟨r, s, rfl, rfl⟩
  obtain ⟨r1, s1, rfl, rfl⟩ := h1
  obtain ⟨r2, s2, rfl, rfl⟩ := h2
  exact ⟨r * r1 + s * r2, r * s1 + s * s2, by grind, by grind⟩
theorem sum_comm {L M : Int → Int → Prop} {x y : Int} : Sum L M x y ↔ Sum M L x y := by
  constructor
  · rintro ⟨z, w, h1, h2⟩
    exact ⟨x - z, y - w, h2, by rw [show x - (x - z) = z by omega, show y - (y - w) = w by omega]; exact h1⟩
  · rintro ⟨z, w, h1, h2⟩
    exact ⟨x - z, y - w, h2, by rw [show x - (x - z) = z by omega, show y - (y - w) = w by omega]; exact h1⟩
theorem sub_area {a b c d e f g h : Int} (h0 : a * d - b * c ≠ 0) (hs : ∀ x y, InN a b c d x y → InN e f g h x y) : (e * h - f * g) ∣ (a * d - b * c) := by
  obtain ⟨k, e⟩ := inN_cross (hs _ _ inN_one) (hs _ _ inN_two)
  exact ⟨k, by rw [e, Int.mul_comm]⟩
end Lat
/-! Turned and mirrored nets; square nets. -/
namespace Lat
theorem inN_neg {a b c d x y : Int} (h : InN a b c d x y) : InN a b c d (-x) (-y) := by
  obtain ⟨r, s, rfl, rfl⟩ := h
  exact ⟨-r, -s, by grind, by grind⟩
theorem inN_turn {a b c d x y : Int} : InN (-b) a (-d) c x y ↔ InN a b c d y (-x) := by
  constructor
  · rintro ⟨r, s, rfl, rfl⟩
    exact ⟨r, s, by grind, by grind⟩
  · rintro ⟨r, s, e1, e2⟩
    exact ⟨r, s, by grind, by grind⟩
theorem inN_turn' {a b c d x y : Int} : InN (-b) a (-d) c x y ↔ InN a b c d (-y) x := by
  rw [inN_turn]
  constructor
  · intro h; have := inN_neg h; rwa [Int.neg_neg] at this
  · intro h; have := inN_neg h; rwa [Int.neg_neg] at this
theorem inN_across {a b c d x y : Int} : InN b a d c x y ↔ InN a b c d y x := by
  constructor
  · rintro ⟨r, s, rfl, rfl⟩; exact ⟨r, s, rfl, rfl⟩
  · rintro ⟨r, s, rfl, rfl⟩; exact ⟨r, s, rfl, rfl⟩
theorem inN_aside {a b c d x y : Int} : InN (-a) b (-c) d x y ↔ InN a b c d (-x) y := by
  constructor
  · rintro ⟨r, s, rfl, rfl⟩; exact ⟨r, s, by grind, by grind⟩
  · rintro ⟨r, s, e1, e2⟩; exact ⟨r, s, by grind, by grind⟩
/-- a net that turned vectors stay in -/
def Sqr (a b c d : Int) : Prop := ∀ x y, InN a b c d x y → InN a b c d (-y) x
theorem sqr_iff {a b c d : Int} : Sqr a b c d ↔ InN a b c d (-b) a ∧ InN a b c d (-d) c := by
  constructor
  · intro h; exact ⟨h _ _ inN_one, h _ _ inN_two⟩
  · rintro ⟨h1, h2⟩ x y ⟨r, s, rfl, rfl⟩
    have := inN_sub_of h1 h2 (-(r * b + s * d)) (r * a + s * c) ⟨r, s, by grind, by grind⟩
    exact this
def Acr (a b c d : Int) : Prop := ∀ x y, InN a b c d x y → InN a b c d y x
theorem acr_iff {a b c d : Int} : Acr a b c d ↔ InN a b c d b a ∧ InN a b c d d c := by
  constructor
  · intro h; exact ⟨h _ _ inN_one, h _ _ inN_two⟩
  · rintro ⟨h1, h2⟩ x y ⟨r, s, rfl, rfl⟩
    exact inN_sub_of h1 h2 _ _ ⟨r, s, rfl, rfl⟩
def Asi (a b c d : Int) : Prop := ∀ x y, InN a b c d x y → InN a b c d (-x) y
theorem asi_iff {a b c d : Int} : Asi a b c d ↔ InN a b c d (-a) b ∧ InN a b c d (-c) d := by
  constructor
  · intro h; exact ⟨h _ _ inN_one, h _ _ inN_two⟩
  · rintro ⟨h1, h2⟩ x y ⟨r, s, rfl, rfl⟩
    exact inN_sub_of h1 h2 _ _ ⟨r, s, by grind, by grind⟩
theorem sqr_mirrors {a b c d : Int} (h : Sqr a b c d) : Acr a b c d ↔ Asi a b c d := by
  constructor
  · intro k x y q
    exact h _ _ (k _ _ q)
  · intro k x y q
    have := inN_neg (h _ _ (k _ _ q))
    rwa [Int.neg_neg, Int.neg_neg] at this
/-- the least of the squared lengths -/
def Lst (L : Int → Int → Prop) (m : Int) : Prop := (∃ x y, L x y ∧ ¬ (x = 0 ∧ y = 0) ∧ x * x + y * y = m) ∧ ∀ x y, L x y → ¬ (x = 0 ∧ y = 0) → m ≤ x * x + y * y
theorem Lst.uniq {L M : Int → Int → Prop} {m k : Int} (h1 : Lst L m) (h2 : Lst M k) (to : ∀ x y, L x y → ∃ z w, M z w ∧ (z = 0 ∧ w = 0 → x = 0 ∧ y = 0) ∧ z * z + w * w = x * x + y * y)
    (back : ∀ x y, M x y → ∃ z w, L z w ∧ (z = 0 ∧ w = 0 → x = 0 ∧ y = 0) ∧ z * z + w * w = x * x + y * y) : m = k := by
  obtain ⟨⟨x, y, a1, a2, a3⟩, a4⟩ := h1
  obtain ⟨⟨z, w, b1, b2, b3⟩, b4⟩ := h2
  obtain ⟨z', w', c1, c2, c3⟩ := to x y a1
  obtain ⟨x', y', d1, d2, d3⟩ := back z w b1
  have := b4 z' w' c1 (fun q => a2 (c2 q))
  have := a4 x' y' d1 (fun q => b2 (d2 q))
  omega
theorem red_lst {a b c d x y z u : Int} (h : Red x y z u) (he : ∀ X Y, InN x y z u X Y ↔ InN a b c d X Y) : Lst (InN a b c d) (x * x + y * y) := by
  refine ⟨⟨x, y, (he _ _).mp inN_one, ?_, rfl⟩, ?_⟩
  · rintro ⟨rfl, rfl⟩
    have := h.pos
    simp at this
  · intro X Y hX h0
    obtain ⟨r, s, rfl, rfl⟩ := (he _ _).mpr hX
    refine h.far.2 ?_
    by_cases r0 : r = 0
    · right
      intro s0
      subst r0; subst s0
      simp at h0
    · exact .inl r0
/-- a square net's least square is its area -/
theorem sqr_area {a b c d x y z u : Int} (hq : Sqr a b c d) (h : Red x y z u) (he : ∀ X Y, InN x y z u X Y ↔ InN a b c d X Y) (ha : a * d - b * c ≠ 0) : x * x + y * y = ((a * d - b * c).natAbs : Int) := by
  have e1 := inN_area he
  have e2 := h.size
  rw [e1] at e2
  obtain ⟨r, s, q1, q2⟩ := (he _ _).mpr (hq _ _ ((he _ _).mp inN_one))
  have e3 : x * x + y * y = s * (x * u - y * z) := by
    have : x * x + y * y = x * x - y * (-y) := by grind
    rw [this, q1]
    have h2 : x * x = x * (r * y + s * u) := by rw [← q2]
    rw [h2]
    grind
  have npos := h.pos
  generalize hN : x * x + y * y = N at *
  generalize hD : x * u - y * z = Dd at *
  generalize hA : ((a * d - b * c).natAbs : Int) = A at *
  have hA' : (Dd.natAbs : Int) = A := by omega
  have apos : 0 < A := by omega
  have e4 : N = (s.natAbs : Int) * A := by
    have : (N.natAbs : Int) = (s.natAbs : Int) * (Dd.natAbs : Int) := by rw [← Int.natCast_mul, ← Int.natAbs_mul, ← e3]
    rw [hA'] at this
    omega
  generalize (s.natAbs : Int) = k at *
  have k0 : 0 < k := by
    by_cases q : 0 < k
    · exact q
    · have := Int.mul_nonpos_of_nonpos_of_nonneg (show k ≤ 0 by omega) (show 0 ≤ A by omega)
      omega
  by_cases k1 : k = 1
  · subst k1; omega
  · exfalso
    have k2 : 2 * A ≤ N := by
      rw [e4]; exact Int.mul_le_mul_of_nonneg_right (by omega) (by omega)
    have m1 : 2 * A * (2 * A) ≤ N * N := Int.mul_le_mul k2 k2 (by omega) (by omega)
    have m2 : 3 * N * N = 3 * (N * N) := by grind
    have m3 : 4 * A * A = 2 * A * (2 * A) := by grind
    have m4 : 0 < A * A := Int.mul_pos apos apos
    have m5 : 2 * A * (2 * A) = 4 * (A * A) := by grind
    omega
end Lat
/-! All forms of an area. -/
namespace Lat
abbrev Tr := Int × Int × Int
def rowF (n a : Nat) : List Tr := if n % a = 0 then (List.range a).map fun b : Nat => ((a : Int), (b : Int), ((n / a : Nat) : Int)) else []
def fl (n : Nat) : List Tr := (List.range n).flatMap fun i => rowF n (i + 1)
theorem mem_fl {n : Nat} (hn : 0 < n) {p q s : Int} : (p, q, s) ∈ fl n ↔ 0 < p ∧ 0 ≤ q ∧ q < p ∧ p * s = n := by
  unfold fl rowF
  simp only [List.mem_flatMap, List.mem_range]
  constructor
  · rintro ⟨i, hi, h⟩
    split at h
    · rename_i hm
      obtain ⟨b, hb, e⟩ := List.mem_map.mp h
      cases e
      have hb := List.mem_range.mp hb
      refine ⟨by omega, by omega, by omega, ?_⟩
      rw [← Int.natCast_mul, Nat.mul_div_cancel' (Nat.dvd_of_mod_eq_zero hm)]
    · cases h
  · rintro ⟨h1, h2, h3, h4⟩
    obtain ⟨a, rfl⟩ := Int.eq_ofNat_of_zero_le (show 0 ≤ p by omega)
    obtain ⟨b, rfl⟩ := Int.eq_ofNat_of_zero_le h2
    have hs : 0 < s := by
      by_cases q : 0 < s
      · exact q
      · have := Int.mul_nonpos_of_nonneg_of_nonpos (show (0 : Int) ≤ a by omega) (show s ≤ 0 by omega); omega
    obtain ⟨c, rfl⟩ := Int.eq_ofNat_of_zero_le (show 0 ≤ s by omega)
    have h4 : a * c = n := by exact_mod_cast h4
    have ha : 0 < a := by omega
    have hc : 0 < c := by omega
    have hle : a ≤ n := by rw [← h4]; exact Nat.le_mul_of_pos_right a hc
    refine ⟨a - 1, by omega, ?_⟩
    have e : a - 1 + 1 = a := by omega
    rw [e]
    have hm : n % a = 0 := by rw [← h4, Nat.mul_mod_right]
    rw [if_pos hm]
    refine List.mem_map.mpr ⟨b, List.mem_range.mpr (by omega), ?_⟩
    have : n / a = c := by rw [← h4, Nat.mul_div_cancel_left _ ha]
    rw [this]
def ltT (s t : Tr) : Prop := s.1 < t.1 ∨ s.1 = t.1 ∧ s.2.1 < t.2.1
theorem fl_pw (n : Nat) : (fl n).Pairwise ltT := by
  unfold fl
  rw [List.pairwise_flatMap]
  refine ⟨fun i _ => ?_, ?_⟩
  · unfold rowF
    split
    · rw [List.pairwise_map]
      exact List.pairwise_lt_range.imp fun {a b} h => .inr ⟨rfl, by show (a : Int) < (b : Int); omega⟩
    · exact List.Pairwise.nil
  · refine List.pairwise_lt_range.imp fun {i j} h x hx y hy => .inl ?_
    unfold rowF at hx hy
    split at hx
    · split at hy
      · obtain ⟨b, _, rfl⟩ := List.mem_map.mp hx
        obtain ⟨b', _, rfl⟩ := List.mem_map.mp hy
        show ((i + 1 : Nat) : Int) < ((j + 1 : Nat) : Int)
        omega
      · cases hy
    · cases hx
theorem fl_nodup (n : Nat) : (fl n).Nodup := (fl_pw n).imp fun {s t} h e => by
  subst e
  rcases h with h | h <;> omega
/-- a map of a list without repeats into itself that parts what differs is a rearrangement -/
theorem sub_perm {α : Type} [DecidableEq α] : ∀ {m l : List α}, m.Nodup → (∀ x ∈ m, x ∈ l) → l.length ≤ m.length → m.Perm l
  | [], l, _, _, h => by
    have : l = [] := List.length_eq_zero_iff.mp (by simpa using h)
    rw [this]
  | x :: m, l, hd, hs, hl => by
    have hx := hs x List.mem_cons_self
    have p := List.perm_cons_erase hx
    obtain ⟨h1, h2⟩ := List.nodup_cons.mp hd
    have hl' : (l.erase x).length + 1 = l.length := by
      have := p.length_eq
      rw [List.length_cons] at this
      omega
    have ih : m.Perm (l.erase x) := sub_perm h2 (fun y hy => by
      have hy' := hs y (List.mem_cons_of_mem _ hy)
      rw [p.mem_iff] at hy'
      rcases List.mem_cons.mp hy' with rfl | h
      · exact absurd hy h1
      · exact h) (by rw [List.length_cons] at hl; omega)
    exact (ih.cons x).trans p.symm
theorem map_perm {α : Type} [DecidableEq α] {l : List α} {f : α → α} (hd : l.Nodup) (hf : ∀ x ∈ l, f x ∈ l) (hi : ∀ x ∈ l, ∀ y ∈ l, f x = f y → x = y) : (l.map f).Perm l := by
  refine sub_perm ?_ (fun y hy => by obtain ⟨x, hx, rfl⟩ := List.mem_map.mp hy; exact hf x hx) (by rw [List.length_map]; exact Nat.le_refl _)
  exact List.pairwise_map.mpr (List.Pairwise.imp_of_mem (fun {a b} ha hb h e => h (hi a ha b hb e)) hd)
/-- the sum of values at lo, lo + 1, .. -/
def isum (f : Int → Int) (lo : Int) : Nat → Int
  | 0 => 0
  | k + 1 => f lo + isum f (lo + 1) k
def onC (n x y : Int) : Int := if x * x + y * y = n then 1 else 0
/-- does the quarter-turned form lie on itself? -/
def sqF (t : Tr) : Bool := decide ((t.1 * t.2.2 - 0 * t.2.1) ∣ (0 * t.2.2 - t.1 * t.2.1) ∧ (t.1 * t.2.2 - 0 * t.2.1) ∣ (t.1 * t.1 - 0 * 0)) && decide ((t.1 * t.2.2 - 0 * t.2.1) ∣ (-t.2.2 * t.2.2 - t.2.1 * t.2.1) ∧ (t.1 * t.2.2 - 0 * t.2.1) ∣ (t.1 * t.2.1 - 0 * -t.2.2))
theorem four (n : Nat) (h : n < 31) : 0 < n → 4 * (((fl n).filter sqF).length : Int) = isum (fun x => isum (fun y => onC n x y) (-n) (2 * n + 1)) (-n) (2 * n + 1) := by
  revert n
  decide +kernel
end Lat
namespace G
open PySem L2 PyProof.Rows DL
def topS (i : Nat) : Stmt := PySem.Challenge.pw_inkwright_k90_whole_squares_and_mirrors.main.body.getD i (.Pass ⟨0, 0, 0, 0⟩)
abbrev s_law_mixed : Stmt := topS 13
abbrev N_law_mixed : List Str := ["number", "place", "first", "second", "third"]
theorem sc_law_mixed : FnScope N_law_mixed ["number", "place"] (defScope s_law_mixed) := ⟨rfl, rfl, rfl, by decide +kernel, rfl, by decide +kernel, by decide +kernel⟩
def m_law_mixed : DL.P := (pSeq (pSet (.v 2) (eOp2 aMod (.e (eOp aInt [(.e (eOp2 aAdd (.e (eOp2 aAdd (.e (eOp2 aMulI (.p 0) (.e (eK (.int 48271))))) (.e (eOp2 aMulI (.p 1) (.e (eK (.int 69621))))))) (.e (eK (.int 11)))))])) (.e (eK (.int 618970019642690137449562111))))) (pSeq (pSet (.v 3) (eOp2 aMod (.e (eOp aInt [(.e (eOp2 aAdd (.e (eOp2 aAdd (.e (eOp2 aMulI (.p 2) (.p 2))) (.e (eOp2 aMulI (.e (eK (.int 7))) (.p 2))))) (.p 1)))])) (.e (eK (.int 162259276829213363391578010288127))))) (pSeq (pSet (.v 4) (eOp2 aMod (.e (eOp aInt [(.e (eOp2 aAdd (.e (eOp2 aMulI (.p 3) (.p 3))) (.p 2)))])) (.e (eK (.int 618970019642690137449562111))))) (pRet (eOp2 aAdd (.e (eOp2 aMulI (.p 3) (.e (eK (.int 618970019642690137449562111))))) (.p 4))))))
def f_law_mixed : Fn := fnD 5 m_law_mixed
abbrev s_law_rest : Stmt := topS 14
abbrev N_law_rest : List Str := ["script", "place", "fills", "number"]
theorem sc_law_rest : FnScope N_law_rest ["script", "place", "fills"] (defScope s_law_rest) := ⟨rfl, rfl, rfl, by decide +kernel, rfl, by decide +kernel, by decide +kernel⟩
def m_law_rest : DL.P := (pSeq (pSet (.v 3) (eK (.int 0))) (pSeq (pIf (tB (eOp2 aGtI (.e (eOp aLen [(.p 0)])) (.e (eK (.int 0))))) (pSet (.v 3) (eOp aInt [(.e (eOp2 aIx (.p 0) (.e (eOp2 aMod (.e (eOp aInt [(.p 1)])) (.e (eOp aLen [(.p 0)]))))))])) pSkip) (pSeq (pIf (tB (eOp2 aLtI (.p 3) (.e (eK (.int 0))))) (pSet (.v 3) (eOp2 aSub (.e (eK (.int 1))) (.e (eOp2 aMulI (.e (eK (.int 2))) (.p 3))))) pSkip) (pSeq (pIf (tAndD (tB (eOp2 aEq (.p 2) (.e (eK (.int 0))))) (tAndD (tB (eOp2 aLtI (.p 1) (.e (eOp aLen [(.p 0)])))) (tB (eOp2 aGeI (.p 3) (.e (eOp2 aPow (.e (eK (.int 10))) (.e (eK (.int 18))))))))) (pRet (eOp2 aSub (.p 3) (.e (eOp2 aPow (.e (eK (.int 10))) (.e (eK (.int 18))))))) pSkip) (pRet (eCall f_law_mixed [(.e (eOp2 aAdd (.p 3) (.e (eOp2 aMulI (.p 2) (.e (eK (.int 1000003))))))), (.p 1)]))))))
def f_law_rest : Fn := fnD 4 m_law_rest
abbrev s_law_pool : Stmt := topS 15
abbrev N_law_pool : List Str := ["script"]
theorem sc_law_pool : FnScope N_law_pool ["script"] (defScope s_law_pool) := ⟨rfl, rfl, rfl, by decide +kernel, rfl, by decide +kernel, by decide +kernel⟩
def m_law_pool : E := (eOp aLst (allE [(eV 0), (eK (.int 0)), (eCall f_law_rest [(.p 0), (.e (eK (.int 0))), (.e (eK (.int 0)))]), (eK (.int 0))]))
def f_law_pool : Fn := fnD 1 (pRet m_law_pool)
abbrev s_nets_of : Stmt := topS 7
abbrev N_nets_of : List Str := ["n", "found", "a", "b"]
theorem sc_nets_of : FnScope N_nets_of ["n"] (defScope s_nets_of) := ⟨rfl, rfl, rfl, by decide +kernel, rfl, by decide +kernel, by decide +kernel⟩
def c_nets_of_1 : DL.E := (eOp aTup (allE [(eOp aTup (allE [(eV 2), (eK (.int 0))])), (eOp aTup (allE [(eV 3), (eOp2 aDiv (.p 0) (.p 2))]))]))
def l_nets_of_2 : DL.P := (pIf (tB (eOp2 aEq (.e (eOp2 aMod (.p 0) (.p 2))) (.e (eK (.int 0))))) (pDrop (eMutL 1 gExtend [(eComp (iOp rng1 [(.p 2)]) (.v 3) [3] tTrue c_nets_of_1)])) pSkip)
def m_nets_of : DL.P := (pSeq (pOwn 1 (eOp aLst (allE []))) (pSeq (pFor (iOp rng2 [(.e (eK (.int 1))), (.e (eOp2 aAdd (.p 0) (.e (eK (.int 1)))))]) (.v 2) l_nets_of_2) (pRet (eOp aSorted [(.p 1)]))))
def f_nets_of : Fn := fnD 4 m_nets_of
abbrev s_law_next : Stmt := topS 16
abbrev N_law_next : List Str := ["pool"]
theorem sc_law_next : FnScope N_law_next ["pool"] (defScope s_law_next) := ⟨rfl, rfl, rfl, by decide +kernel, rfl, by decide +kernel, by decide +kernel⟩
def m_law_next : DL.P := (pSeq (pSetL 0 (eK (.int 1)) (eOp2 aAdd (.e (eOp2 aIx (.p 0) (.e (eK (.int 1))))) (.e (eK (.int 1))))) (pSeq (pSetL 0 (eK (.int 2)) (eCall f_law_rest [(.e (eOp2 aIx (.p 0) (.e (eK (.int 0))))), (.e (eOp2 aIx (.p 0) (.e (eK (.int 1))))), (.e (eK (.int 0)))])) (pSetL 0 (eK (.int 3)) (eK (.int 0)))))
def f_law_next : Fn := fnD 1 m_law_next
abbrev s_law_draw : Stmt := topS 17
abbrev N_law_draw : List Str := ["pool", "limit", "value"]
theorem sc_law_draw : FnScope N_law_draw ["pool", "limit"] (defScope s_law_draw) := ⟨rfl, rfl, rfl, by decide +kernel, rfl, by decide +kernel, by decide +kernel⟩
def m_law_draw : DL.P := (pSeq (pIf (tB (eOp2 aLeI (.e (eOp2 aIx (.p 0) (.e (eK (.int 2))))) (.e (eK (.int 1))))) (pSeq (pSetL 0 (eK (.int 3)) (eOp2 aAdd (.e (eOp2 aIx (.p 0) (.e (eK (.int 3))))) (.e (eK (.int 1))))) (pSetL 0 (eK (.int 2)) (eCall f_law_rest [(.e (eOp2 aIx (.p 0) (.e (eK (.int 0))))), (.e (eOp2 aIx (.p 0) (.e (eK (.int 1))))), (.e (eOp2 aIx (.p 0) (.e (eK (.int 3)))))]))) pSkip) (pSeq (pSet (.v 2) (eOp2 aMod (.e (eOp aInt [(.e (eOp2 aIx (.p 0) (.e (eK (.int 2)))))])) (.p 1))) (pSeq (pSetL 0 (eK (.int 2)) (eOp2 aDiv (.e (eOp aInt [(.e (eOp2 aIx (.p 0) (.e (eK (.int 2)))))])) (.p 1))) (pRet (eV 2)))))
def f_law_draw : Fn := fnD 3 m_law_draw
abbrev s_law_vector : Stmt := topS 18
abbrev N_law_vector : List Str := ["pool", "far"]
theorem sc_law_vector : FnScope N_law_vector ["pool", "far"] (defScope s_law_vector) := ⟨rfl, rfl, rfl, by decide +kernel, rfl, by decide +kernel, by decide +kernel⟩
def m_law_vector : DL.P := (pRet (eOp aTup (allE [(eOp2 aSub (.e (eCall f_law_draw [(.p 0), (.e (eOp2 aAdd (.e (eOp2 aMulI (.e (eK (.int 2))) (.p 1))) (.e (eK (.int 1)))))])) (.p 1)), (eOp2 aSub (.e (eCall f_law_draw [(.p 0), (.e (eOp2 aAdd (.e (eOp2 aMulI (.e (eK (.int 2))) (.p 1))) (.e (eK (.int 1)))))])) (.p 1))])))
def f_law_vector : Fn := fnD 2 m_law_vector
abbrev s_law_net : Stmt := topS 19
abbrev N_law_net : List Str := ["pool", "far", "one", "other"]
theorem sc_law_net : FnScope N_law_net ["pool", "far"] (defScope s_law_net) := ⟨rfl, rfl, rfl, by decide +kernel, rfl, by decide +kernel, by decide +kernel⟩
def m_law_net : DL.P := (pSeq (pSet (.v 2) (eCall f_law_vector [(.p 0), (.p 1)])) (pSeq (pSet (.v 3) (eCall f_law_vector [(.p 0), (.p 1)])) (pSeq (pIf (tB (eOp2 aEq (.e (eOp2 aMulI (.e (eOp2 aIx (.p 2) (.e (eK (.int 0))))) (.e (eOp2 aIx (.p 3) (.e (eK (.int 1))))))) (.e (eOp2 aMulI (.e (eOp2 aIx (.p 2) (.e (eK (.int 1))))) (.e (eOp2 aIx (.p 3) (.e (eK (.int 0))))))))) (pSeq (pSet (.v 2) (eOp aTup (allE [(eOp2 aAdd (.e (eK (.int 1))) (.e (eCall f_law_draw [(.p 0), (.p 1)]))), (eCall f_law_draw [(.p 0), (.p 1)])]))) (pSet (.v 3) (eOp aTup (allE [(eOp2 aAdd (.e (eOp1 aNeg (.e (eOp2 aIx (.p 2) (.e (eK (.int 1))))))) (.e (eCall f_law_draw [(.p 0), (.e (eK (.int 2)))]))), (eOp2 aAdd (.e (eOp2 aIx (.p 2) (.e (eK (.int 0))))) (.e (eK (.int 1))))])))) pSkip) (pSeq (pIf (tB (eOp2 aEq (.e (eOp2 aMulI (.e (eOp2 aIx (.p 2) (.e (eK (.int 0))))) (.e (eOp2 aIx (.p 3) (.e (eK (.int 1))))))) (.e (eOp2 aMulI (.e (eOp2 aIx (.p 2) (.e (eK (.int 1))))) (.e (eOp2 aIx (.p 3) (.e (eK (.int 0))))))))) (pSet (.v 3) (eOp aTup (allE [(eK (.int 0)), (eK (.int 1))]))) pSkip) (pRet (eOp aTup (allE [(eV 2), (eV 3)])))))))
def f_law_net : Fn := fnD 4 m_law_net
abbrev s_law_area : Stmt := topS 21
abbrev N_law_area : List Str := ["net"]
theorem sc_law_area : FnScope N_law_area ["net"] (defScope s_law_area) := ⟨rfl, rfl, rfl, by decide +kernel, rfl, by decide +kernel, by decide +kernel⟩
def m_law_area : DL.P := (pRet (eOp aAbs [(.e (eOp2 aSub (.e (eOp2 aMulI (.e (eOp2 aIx (.e (eOp2 aIx (.p 0) (.e (eK (.int 0))))) (.e (eK (.int 0))))) (.e (eOp2 aIx (.e (eOp2 aIx (.p 0) (.e (eK (.int 1))))) (.e (eK (.int 1))))))) (.e (eOp2 aMulI (.e (eOp2 aIx (.e (eOp2 aIx (.p 0) (.e (eK (.int 0))))) (.e (eK (.int 1))))) (.e (eOp2 aIx (.e (eOp2 aIx (.p 0) (.e (eK (.int 1))))) (.e (eK (.int 0)))))))))]))
def f_law_area : Fn := fnD 1 m_law_area
abbrev s_law_is_dot : Stmt := topS 22
abbrev N_law_is_dot : List Str := ["net", "place", "a", "b", "c", "d", "whole", "first", "second"]
theorem sc_law_is_dot : FnScope N_law_is_dot ["net", "place"] (defScope s_law_is_dot) := ⟨rfl, rfl, rfl, by decide +kernel, rfl, by decide +kernel, by decide +kernel⟩
def m_law_is_dot : DL.P := (pSeq (pSet (.t [(.t [(.v 2), (.v 3)]), (.t [(.v 4), (.v 5)])]) (eV 0)) (pSeq (pSet (.v 6) (eOp2 aSub (.e (eOp2 aMulI (.p 2) (.p 5))) (.e (eOp2 aMulI (.p 3) (.p 4))))) (pSeq (pSet (.v 7) (eOp2 aSub (.e (eOp2 aMulI (.e (eOp2 aIx (.p 1) (.e (eK (.int 0))))) (.p 5))) (.e (eOp2 aMulI (.e (eOp2 aIx (.p 1) (.e (eK (.int 1))))) (.p 4))))) (pSeq (pSet (.v 8) (eOp2 aSub (.e (eOp2 aMulI (.p 2) (.e (eOp2 aIx (.p 1) (.e (eK (.int 1))))))) (.e (eOp2 aMulI (.p 3) (.e (eOp2 aIx (.p 1) (.e (eK (.int 0))))))))) (pRet (eAnd (eOp2 aEq (.e (eOp2 aMod (.e (eOp aInt [(.p 7)])) (.e (eOp aAbs [(.p 6)])))) (.e (eK (.int 0)))) (eOp2 aEq (.e (eOp2 aMod (.e (eOp aInt [(.p 8)])) (.e (eOp aAbs [(.p 6)])))) (.e (eK (.int 0))))))))))
def f_law_is_dot : Fn := fnD 9 m_law_is_dot
abbrev s_law_same_dots : Stmt := topS 23
abbrev N_law_same_dots : List Str := ["one", "other", "vector"]
theorem sc_law_same_dots : FnScope N_law_same_dots ["one", "other"] (defScope s_law_same_dots) := ⟨rfl, rfl, rfl, by decide +kernel, rfl, by decide +kernel, by decide +kernel⟩
def c_law_same_dots_1 : DL.E := (eV 2)
def t_law_same_dots_2 : DL.T := (tNotD (tB (eCall f_law_is_dot [(.p 1), (.p 2)])))
def m_law_same_dots : DL.P := (pSeq (pIf (tB (eOp2 aNe (.e (eCall f_law_area [(.p 0)])) (.e (eCall f_law_area [(.p 1)])))) (pRet (eK (.bool false))) pSkip) (pRet (eOp2 aEq (.e (eOp aLen [(.e (eComp (iSeq (eV 0)) (.v 2) [2] t_law_same_dots_2 c_law_same_dots_1))])) (.e (eK (.int 0))))))
def f_law_same_dots : Fn := fnD 3 m_law_same_dots
abbrev s_form_of_all : Stmt := topS 3
abbrev N_form_of_all : List Str := ["vectors", "low", "lead", "vector", "here", "factor"]
theorem sc_form_of_all : FnScope N_form_of_all ["vectors"] (defScope s_form_of_all) := ⟨rfl, rfl, rfl, by decide +kernel, rfl, by decide +kernel, by decide +kernel⟩
def l_form_of_all_1 : DL.P := (pSeq (pSet (.v 5) (eOp2 aDiv (.e (eOp2 aIx (.p 2) (.e (eK (.int 1))))) (.e (eOp2 aIx (.p 4) (.e (eK (.int 1))))))) (pSet (.t [(.v 2), (.v 4)]) (eOp aTup (allE [(eV 4), (eOp aTup (allE [(eOp2 aSub (.e (eOp2 aIx (.p 2) (.e (eK (.int 0))))) (.e (eOp2 aMulI (.p 5) (.e (eOp2 aIx (.p 4) (.e (eK (.int 0)))))))), (eOp2 aSub (.e (eOp2 aIx (.p 2) (.e (eK (.int 1))))) (.e (eOp2 aMulI (.p 5) (.e (eOp2 aIx (.p 4) (.e (eK (.int 1))))))))]))]))))
def t_form_of_all_2 : DL.T := (tB (eOp2 aNe (.e (eOp2 aIx (.p 4) (.e (eK (.int 1))))) (.e (eK (.int 0)))))
def l_form_of_all_3 : DL.P := (pSeq (pSet (.v 4) (eOp aTuple [(.p 3)])) (pSeq (pWhile t_form_of_all_2 l_form_of_all_1 fuel) (pSet (.v 1) (eOp aGcd [(.p 1), (.e (eOp2 aIx (.p 4) (.e (eK (.int 0)))))]))))
def m_form_of_all : DL.P := (pSeq (pSet (.v 1) (eK (.int 0))) (pSeq (pSet (.v 2) (eOp aTup (allE [(eK (.int 0)), (eK (.int 0))]))) (pSeq (pFor (iSeq (eV 0)) (.v 3) l_form_of_all_3) (pSeq (pIf (tB (eOp2 aLtI (.e (eOp2 aIx (.p 2) (.e (eK (.int 1))))) (.e (eK (.int 0))))) (pSet (.v 2) (eOp aTup (allE [(eOp1 aNeg (.e (eOp2 aIx (.p 2) (.e (eK (.int 0)))))), (eOp1 aNeg (.e (eOp2 aIx (.p 2) (.e (eK (.int 1))))))]))) pSkip) (pRet (eOp aTup (allE [(eOp aTup (allE [(eV 1), (eK (.int 0))])), (eOp aTup (allE [(eOp2 aMod (.e (eOp2 aIx (.p 2) (.e (eK (.int 0))))) (.p 1)), (eOp2 aIx (.p 2) (.e (eK (.int 1))))]))])))))))
def f_form_of_all : Fn := fnD 6 m_form_of_all
abbrev s_form_of : Stmt := topS 4
abbrev N_form_of : List Str := ["net"]
theorem sc_form_of : FnScope N_form_of ["net"] (defScope s_form_of) := ⟨rfl, rfl, rfl, by decide +kernel, rfl, by decide +kernel, by decide +kernel⟩
def m_form_of : DL.P := (pRet (eCall f_form_of_all [(.p 0)]))
def f_form_of : Fn := fnD 1 m_form_of
abbrev s_law_pick : Stmt := topS 20
abbrev N_law_pick : List Str := ["pool", "options"]
theorem sc_law_pick : FnScope N_law_pick ["pool", "options"] (defScope s_law_pick) := ⟨rfl, rfl, rfl, by decide +kernel, rfl, by decide +kernel, by decide +kernel⟩
def m_law_pick : DL.P := (pRet (eOp2 aIx (.p 1) (.e (eCall f_law_draw [(.p 0), (.e (eOp aLen [(.p 1)]))]))))
def f_law_pick : Fn := fnD 2 m_law_pick
abbrev s_law_same : Stmt := topS 24
abbrev N_law_same : List Str := ["actual", "due", "key", "k"]
theorem sc_law_same : FnScope N_law_same ["actual", "due"] (defScope s_law_same) := ⟨rfl, rfl, rfl, by decide +kernel, rfl, by decide +kernel, by decide +kernel⟩
def l_law_same_1 (self : Fn) : DL.P := pNever
def l_law_same_2 (self : Fn) : DL.P := (pIf (tNotD (tB (eCall self [(.e (eOp2 aIx (.p 0) (.p 3))), (.e (eOp2 aIx (.p 1) (.p 3)))]))) (pRet (eK (.bool false))) pSkip)
def m_law_same (self : Fn) : DL.P := (pSeq (pIf (tB (eOp2 aIs (.p 1) (.e (eK .none)))) (pRet (eOp2 aIs (.p 0) (.e (eK .none)))) pSkip) (pSeq (pIf (tB (eOp2 aIs (.p 1) (.e (eK (.bool true))))) (pRet (eOp2 aIs (.p 0) (.e (eK (.bool true))))) pSkip) (pSeq (pIf (tB (eOp2 aIs (.p 1) (.e (eK (.bool false))))) (pRet (eOp2 aIs (.p 0) (.e (eK (.bool false))))) pSkip) (pSeq (pIf (tB (eOp1 (aIsi "int") (.p 1))) (pRet (eAnd (eOp1 (aIsi "int") (.p 0)) (eAnd (eNotV (eOp1 (aIsi "bool") (.p 0))) (eOp2 aEq (.p 0) (.p 1))))) pSkip) (pSeq (pIf (tB (eOp1 (aIsi "str") (.p 1))) (pRet (eAnd (eOp1 (aIsi "str") (.p 0)) (eOp2 aEq (.p 0) (.p 1)))) pSkip) (pSeq (pIf (tB (eOp1 (aIsi "dict") (.p 1))) (pSeq (pIf (tOrD (tNotD (tB (eOp1 (aIsi "dict") (.p 0)))) (tB (eOp2 aNe (.e (eOp aLen [(.p 0)])) (.e (eOp aLen [(.p 1)]))))) (pRet (eK (.bool false))) pSkip) (pSeq (pFor (iSeq (eV 1)) (.v 2) (l_law_same_1 self)) (pRet (eK (.bool true))))) pSkip) (pSeq (pIf (tOrD (tB (eOp2 aNe (.e (eOp1 (aIsi "tuple") (.p 0))) (.e (eOp1 (aIsi "tuple") (.p 1))))) (tB (eOp2 aNe (.e (eOp1 (aIsi "list") (.p 0))) (.e (eOp1 (aIsi "list") (.p 1)))))) (pRet (eK (.bool false))) pSkip) (pSeq (pIf (tB (eOp2 aNe (.e (eOp aLen [(.p 0)])) (.e (eOp aLen [(.p 1)])))) (pRet (eK (.bool false))) pSkip) (pSeq (pFor (iOp rng1 [(.e (eOp aLen [(.p 1)]))]) (.v 3) (l_law_same_2 self)) (pRet (eK (.bool true))))))))))))
def f_law_same : Nat → Fn
  | 0 => fun _ => none
  | n + 1 => fnD 4 (m_law_same (f_law_same n))
abbrev s_is_dot : Stmt := topS 5
abbrev N_is_dot : List Str := ["net", "place", "a", "_", "b", "c"]
theorem sc_is_dot : FnScope N_is_dot ["net", "place"] (defScope s_is_dot) := ⟨rfl, rfl, rfl, by decide +kernel, rfl, by decide +kernel, by decide +kernel⟩
def m_is_dot : DL.P := (pSeq (pSet (.t [(.t [(.v 2), (.v 3)]), (.t [(.v 4), (.v 5)])]) (eCall f_form_of [(.p 0)])) (pRet (eAnd (eOp2 aEq (.e (eOp2 aMod (.e (eOp2 aIx (.p 1) (.e (eK (.int 1))))) (.p 5))) (.e (eK (.int 0)))) (eOp2 aEq (.e (eOp2 aMod (.e (eOp2 aSub (.e (eOp2 aIx (.p 1) (.e (eK (.int 0))))) (.e (eOp2 aMulI (.e (eOp2 aDiv (.e (eOp2 aIx (.p 1) (.e (eK (.int 1))))) (.p 5))) (.p 4))))) (.p 2))) (.e (eK (.int 0)))))))
def f_is_dot : Fn := fnD 6 m_is_dot
abbrev s_is_square : Stmt := topS 10
abbrev N_is_square : List Str := ["net", "x", "y"]
theorem sc_is_square : FnScope N_is_square ["net"] (defScope s_is_square) := ⟨rfl, rfl, rfl, by decide +kernel, rfl, by decide +kernel, by decide +kernel⟩
def c_is_square_1 : DL.E := (eCall f_is_dot [(.p 0), (.e (eOp aTup (allE [(eOp1 aNeg (.p 2)), (eV 1)])))])
def m_is_square : DL.P := (pRet (eOp aAll [(.e (eComp (iSeq (eV 0)) (.t [(.v 1), (.v 2)]) [1, 2] tTrue c_is_square_1))]))
def f_is_square : Fn := fnD 3 m_is_square
abbrev s_mirrors : Stmt := topS 11
abbrev N_mirrors : List Str := ["net", "found", "x", "y"]
theorem sc_mirrors : FnScope N_mirrors ["net"] (defScope s_mirrors) := ⟨rfl, rfl, rfl, by decide +kernel, rfl, by decide +kernel, by decide +kernel⟩
def c_mirrors_1 : DL.E := (eCall f_is_dot [(.p 0), (.e (eOp aTup (allE [(eV 3), (eV 2)])))])
def c_mirrors_2 : DL.E := (eCall f_is_dot [(.p 0), (.e (eOp aTup (allE [(eOp1 aNeg (.p 2)), (eV 3)])))])
def m_mirrors : DL.P := (pSeq (pOwn 1 (eOp aLst (allE []))) (pSeq (pIf (tB (eOp aAll [(.e (eComp (iSeq (eV 0)) (.t [(.v 2), (.v 3)]) [2, 3] tTrue c_mirrors_1))])) (pDrop (eMutL 1 gAppend [(eK (.str (Str.ofString "across")))])) pSkip) (pSeq (pIf (tB (eOp aAll [(.e (eComp (iSeq (eV 0)) (.t [(.v 2), (.v 3)]) [2, 3] tTrue c_mirrors_2))])) (pDrop (eMutL 1 gAppend [(eK (.str (Str.ofString "aside")))])) pSkip) (pRet (eV 1)))))
def f_mirrors : Fn := fnD 4 m_mirrors
abbrev s_inner : Stmt := topS 8
abbrev N_inner : List Str := ["one", "other"]
theorem sc_inner : FnScope N_inner ["one", "other"] (defScope s_inner) := ⟨rfl, rfl, rfl, by decide +kernel, rfl, by decide +kernel, by decide +kernel⟩
def m_inner : DL.P := (pRet (eOp2 aAdd (.e (eOp2 aMulI (.e (eOp2 aIx (.p 0) (.e (eK (.int 0))))) (.e (eOp2 aIx (.p 1) (.e (eK (.int 0))))))) (.e (eOp2 aMulI (.e (eOp2 aIx (.p 0) (.e (eK (.int 1))))) (.e (eOp2 aIx (.p 1) (.e (eK (.int 1)))))))))
def f_inner : Fn := fnD 2 m_inner
abbrev s_reduced : Stmt := topS 9
abbrev N_reduced : List Str := ["net", "one", "other", "size", "factor"]
theorem sc_reduced : FnScope N_reduced ["net"] (defScope s_reduced) := ⟨rfl, rfl, rfl, by decide +kernel, rfl, by decide +kernel, by decide +kernel⟩
def l_reduced_1 : DL.P := (pSeq (pIf (tB (eOp2 aLtI (.e (eCall f_inner [(.p 2), (.p 2)])) (.e (eCall f_inner [(.p 1), (.p 1)])))) (pSet (.t [(.v 1), (.v 2)]) (eOp aTup (allE [(eV 2), (eV 1)]))) pSkip) (pSeq (pSet (.v 3) (eCall f_inner [(.p 1), (.p 1)])) (pSeq (pSet (.v 4) (eOp2 aDiv (.e (eOp2 aAdd (.e (eOp2 aMulI (.e (eK (.int 2))) (.e (eCall f_inner [(.p 1), (.p 2)])))) (.p 3))) (.e (eOp2 aMulI (.e (eK (.int 2))) (.p 3))))) (pSeq (pIf (tB (eOp2 aEq (.p 4) (.e (eK (.int 0))))) (pRet (eOp aTup (allE [(eV 1), (eV 2)]))) pSkip) (pSet (.v 2) (eOp aTup (allE [(eOp2 aSub (.e (eOp2 aIx (.p 2) (.e (eK (.int 0))))) (.e (eOp2 aMulI (.p 4) (.e (eOp2 aIx (.p 1) (.e (eK (.int 0)))))))), (eOp2 aSub (.e (eOp2 aIx (.p 2) (.e (eK (.int 1))))) (.e (eOp2 aMulI (.p 4) (.e (eOp2 aIx (.p 1) (.e (eK (.int 1))))))))])))))))
def t_reduced_2 : DL.T := (tB (eK (.bool true)))
def m_reduced : DL.P := (pSeq (pSet (.t [(.v 1), (.v 2)]) (eCall f_form_of [(.p 0)])) (pWhile t_reduced_2 l_reduced_1 fuel))
def f_reduced : Fn := fnD 5 m_reduced
abbrev s_law_least : Stmt := topS 25
abbrev N_law_least : List Str := ["net", "one"]
theorem sc_law_least : FnScope N_law_least ["net"] (defScope s_law_least) := ⟨rfl, rfl, rfl, by decide +kernel, rfl, by decide +kernel, by decide +kernel⟩
def m_law_least : DL.P := (pSeq (pSet (.v 1) (eOp2 aIx (.e (eCall f_reduced [(.p 0)])) (.e (eK (.int 0))))) (pRet (eOp2 aAdd (.e (eOp2 aMulI (.e (eOp2 aIx (.p 1) (.e (eK (.int 0))))) (.e (eOp2 aIx (.p 1) (.e (eK (.int 0))))))) (.e (eOp2 aMulI (.e (eOp2 aIx (.p 1) (.e (eK (.int 1))))) (.e (eOp2 aIx (.p 1) (.e (eK (.int 1))))))))))
def f_law_least : Fn := fnD 2 m_law_least
abbrev s_cross : Stmt := topS 2
abbrev N_cross : List Str := ["one", "other"]
theorem sc_cross : FnScope N_cross ["one", "other"] (defScope s_cross) := ⟨rfl, rfl, rfl, by decide +kernel, rfl, by decide +kernel, by decide +kernel⟩
def m_cross : DL.P := (pRet (eOp2 aSub (.e (eOp2 aMulI (.e (eOp2 aIx (.p 0) (.e (eK (.int 0))))) (.e (eOp2 aIx (.p 1) (.e (eK (.int 1))))))) (.e (eOp2 aMulI (.e (eOp2 aIx (.p 0) (.e (eK (.int 1))))) (.e (eOp2 aIx (.p 1) (.e (eK (.int 0)))))))))
def f_cross : Fn := fnD 2 m_cross
abbrev s_area : Stmt := topS 6
abbrev N_area : List Str := ["net"]
theorem sc_area : FnScope N_area ["net"] (defScope s_area) := ⟨rfl, rfl, rfl, by decide +kernel, rfl, by decide +kernel, by decide +kernel⟩
def m_area : DL.P := (pRet (eOp aAbs [(.e (eCall f_cross [(.e (eOp2 aIx (.p 0) (.e (eK (.int 0))))), (.e (eOp2 aIx (.p 0) (.e (eK (.int 1)))))]))]))
def f_area : Fn := fnD 1 m_area
abbrev s_law : Stmt := topS 26
abbrev N_law : List Str := ["script", "pool", "turn", "net", "x", "y", "form", "turned_net", "across", "aside", "square", "due", "other", "n", "told", "own", "moved", "sums_of", "one", "k"]
theorem sc_law : FnScope N_law ["script"] (defScope s_law) := ⟨rfl, rfl, rfl, by decide +kernel, rfl, by decide +kernel, by decide +kernel⟩
def l_law_1 : DL.P := (pIf (tOrD (tB (eOp2 aNe (.e (eCall f_area [(.p 12)])) (.e (eCall f_area [(.p 3)])))) (tB (eOp2 aNe (.e (eCall f_law_least [(.p 12)])) (.e (eCall f_law_least [(.p 3)]))))) (pRet (eK (.bool false))) pSkip)
def l_law_2 : DL.P := (pSeq (pDrop (eCall f_law_next [(.p 1)])) (pSeq (pSet (.v 3) (eCall f_law_net [(.p 1), (.e (eCall f_law_pick [(.p 1), (.e (eOp aLst (allE [(eK (.int 3)), (eK (.int 9))])))]))])) (pSeq (pSet (.t [(.v 4), (.v 5)]) (eOp2 aIx (.p 3) (.e (eK (.int 0))))) (pSeq (pSet (.v 6) (eCall f_law_draw [(.p 1), (.e (eK (.int 4)))])) (pSeq (pIf (tAndD (tB (eOp2 aEq (.p 6) (.e (eK (.int 0))))) (tB (eOp2 aNe (.e (eOp aTup (allE [(eV 4), (eV 5)]))) (.e (eOp aTup (allE [(eK (.int 0)), (eK (.int 0))])))))) (pSet (.v 3) (eOp aTup (allE [(eOp aTup (allE [(eV 4), (eV 5)])), (eOp aTup (allE [(eOp1 aNeg (.p 5)), (eV 4)]))]))) (pIf (tAndD (tB (eOp2 aEq (.p 6) (.e (eK (.int 1))))) (tB (eOp2 aNe (.e (eOp2 aMulI (.p 4) (.p 4))) (.e (eOp2 aMulI (.p 5) (.p 5)))))) (pSet (.v 3) (eOp aTup (allE [(eOp aTup (allE [(eV 4), (eV 5)])), (eOp aTup (allE [(eV 5), (eV 4)]))]))) pSkip)) (pSeq (pSet (.v 7) (eOp aTup (allE [(eOp aTup (allE [(eOp1 aNeg (.e (eOp2 aIx (.e (eOp2 aIx (.p 3) (.e (eK (.int 0))))) (.e (eK (.int 1)))))), (eOp2 aIx (.e (eOp2 aIx (.p 3) (.e (eK (.int 0))))) (.e (eK (.int 0))))])), (eOp aTup (allE [(eOp1 aNeg (.e (eOp2 aIx (.e (eOp2 aIx (.p 3) (.e (eK (.int 1))))) (.e (eK (.int 1)))))), (eOp2 aIx (.e (eOp2 aIx (.p 3) (.e (eK (.int 1))))) (.e (eK (.int 0))))]))]))) (pSeq (pSet (.v 8) (eOp aTup (allE [(eOp aTup (allE [(eOp2 aIx (.e (eOp2 aIx (.p 3) (.e (eK (.int 0))))) (.e (eK (.int 1)))), (eOp2 aIx (.e (eOp2 aIx (.p 3) (.e (eK (.int 0))))) (.e (eK (.int 0))))])), (eOp aTup (allE [(eOp2 aIx (.e (eOp2 aIx (.p 3) (.e (eK (.int 1))))) (.e (eK (.int 1)))), (eOp2 aIx (.e (eOp2 aIx (.p 3) (.e (eK (.int 1))))) (.e (eK (.int 0))))]))]))) (pSeq (pSet (.v 9) (eOp aTup (allE [(eOp aTup (allE [(eOp1 aNeg (.e (eOp2 aIx (.e (eOp2 aIx (.p 3) (.e (eK (.int 0))))) (.e (eK (.int 0)))))), (eOp2 aIx (.e (eOp2 aIx (.p 3) (.e (eK (.int 0))))) (.e (eK (.int 1))))])), (eOp aTup (allE [(eOp1 aNeg (.e (eOp2 aIx (.e (eOp2 aIx (.p 3) (.e (eK (.int 1))))) (.e (eK (.int 0)))))), (eOp2 aIx (.e (eOp2 aIx (.p 3) (.e (eK (.int 1))))) (.e (eK (.int 1))))]))]))) (pSeq (pSet (.v 10) (eCall f_law_same_dots [(.p 3), (.p 7)])) (pSeq (pIf (tNotD (tB (eCall (f_law_same 4) [(.e (eCall f_is_square [(.p 3)])), (.p 10)]))) (pRet (eK (.bool false))) pSkip) (pSeq (pSet (.v 11) (eOp2 aAdd (.e (eRep (eOp aLst (allE [(eK (.str (Str.ofString "across")))])) (eOp aInt [(.e (eCall f_law_same_dots [(.p 3), (.p 8)]))]))) (.e (eRep (eOp aLst (allE [(eK (.str (Str.ofString "aside")))])) (eOp aInt [(.e (eCall f_law_same_dots [(.p 3), (.p 9)]))]))))) (pSeq (pIf (tNotD (tB (eCall (f_law_same 4) [(.e (eCall f_mirrors [(.p 3)])), (.p 11)]))) (pRet (eK (.bool false))) pSkip) (pSeq (pFor (iSeq (eOp aLst (allE [(eV 7), (eV 8), (eV 9)]))) (.v 12) l_law_1) (pSeq (pIf (tAndD (tTru (.p 10)) (tB (eOp2 aNe (.e (eCall f_law_least [(.p 3)])) (.e (eCall f_area [(.p 3)]))))) (pRet (eK (.bool false))) pSkip) (pIf (tAndD (tTru (.p 10)) (tB (eOp2 aEq (.e (eOp aLen [(.p 11)])) (.e (eK (.int 1)))))) (pRet (eK (.bool false))) pSkip)))))))))))))))
def c_law_3 : DL.E := (eV 18)
def t_law_4 : DL.T := (tB (eCall f_is_square [(.p 18)]))
def c_law_5 : DL.E := (eCall f_form_of [(.e (eOp aTup (allE [(eOp aTup (allE [(eOp1 aNeg (.e (eOp2 aIx (.e (eOp2 aIx (.p 18) (.e (eK (.int 0))))) (.e (eK (.int 1)))))), (eOp2 aIx (.e (eOp2 aIx (.p 18) (.e (eK (.int 0))))) (.e (eK (.int 0))))])), (eOp aTup (allE [(eOp1 aNeg (.e (eOp2 aIx (.e (eOp2 aIx (.p 18) (.e (eK (.int 1))))) (.e (eK (.int 1)))))), (eOp2 aIx (.e (eOp2 aIx (.p 18) (.e (eK (.int 1))))) (.e (eK (.int 0))))]))])))])
def c_law_6 : DL.E := (eV 19)
def t_law_7 : DL.T := (tB (eOp2 aEq (.e (eOp2 aIx (.p 16) (.p 19))) (.e (eOp2 aIx (.p 14) (.p 19)))))
def l_law_8 : DL.P := (pSet (.v 17) (eOp2 aAdd (.p 17) (.e (eOp aInt [(.e (eOp2 aEq (.e (eOp2 aAdd (.e (eOp2 aMulI (.p 4) (.p 4))) (.e (eOp2 aMulI (.p 5) (.p 5))))) (.p 13)))]))))
def l_law_9 : DL.P := (pFor (iOp rng2 [(.e (eOp1 aNeg (.p 13))), (.e (eOp2 aAdd (.p 13) (.e (eK (.int 1)))))]) (.v 5) l_law_8)
def m_law : DL.P := (pSeq (pOwn 1 (eCall f_law_pool [(.p 0)])) (pSeq (pFor (iOp rng1 [(.e (eK (.int 4)))]) (.v 2) l_law_2) (pSeq (pSet (.v 13) (eOp2 aAdd (.e (eK (.int 1))) (.e (eCall f_law_draw [(.p 1), (.e (eK (.int 30)))])))) (pSeq (pSet (.v 14) (eCall f_nets_of [(.p 13)])) (pSeq (pSet (.v 15) (eComp (iSeq (eV 14)) (.v 18) [18] t_law_4 c_law_3)) (pSeq (pSet (.v 16) (eComp (iSeq (eV 14)) (.v 18) [18] tTrue c_law_5)) (pSeq (pIf (tOrD (tB (eOp2 aNe (.e (eOp aSorted [(.p 16)])) (.p 14))) (tB (eOp2 aNe (.e (eOp aLen [(.e (eComp (iOp rng1 [(.e (eOp aLen [(.p 14)]))]) (.v 19) [19] t_law_7 c_law_6))])) (.e (eOp aLen [(.p 15)]))))) (pRet (eK (.bool false))) pSkip) (pSeq (pSet (.v 17) (eK (.int 0))) (pSeq (pFor (iOp rng2 [(.e (eOp1 aNeg (.p 13))), (.e (eOp2 aAdd (.p 13) (.e (eK (.int 1)))))]) (.v 4) l_law_9) (pRet (eOp2 aEq (.e (eOp2 aMulI (.e (eK (.int 4))) (.e (eOp aLen [(.p 15)])))) (.p 17))))))))))))
def f_law : Fn := fnD 20 m_law
structure Facts (κ : Kx) (mg : Str → Option Value) : Prop where
  d_law_mixed : ∃ fa fd, mg "_law_mixed" = some (.ref fa) ∧ L2.Fun κ.K "_law_mixed" "_law_mixed" s_law_mixed fa fd ∧ Binds κ.K fd ["number", "place"] []
  d_law_rest : ∃ fa fd, mg "_law_rest" = some (.ref fa) ∧ L2.Fun κ.K "_law_rest" "_law_rest" s_law_rest fa fd ∧ Binds κ.K fd ["script", "place", "fills"] []
  d_law_pool : ∃ fa fd, mg "_law_pool" = some (.ref fa) ∧ L2.Fun κ.K "_law_pool" "_law_pool" s_law_pool fa fd ∧ Binds κ.K fd ["script"] []
  d_nets_of : ∃ fa fd, mg "nets_of" = some (.ref fa) ∧ L2.Fun κ.K "nets_of" "nets_of" s_nets_of fa fd ∧ Binds κ.K fd ["n"] []
  d_law_next : ∃ fa fd, mg "_law_next" = some (.ref fa) ∧ L2.Fun κ.K "_law_next" "_law_next" s_law_next fa fd ∧ Binds κ.K fd ["pool"] []
  d_law_draw : ∃ fa fd, mg "_law_draw" = some (.ref fa) ∧ L2.Fun κ.K "_law_draw" "_law_draw" s_law_draw fa fd ∧ Binds κ.K fd ["pool", "limit"] []
  d_law_vector : ∃ fa fd, mg "_law_vector" = some (.ref fa) ∧ L2.Fun κ.K "_law_vector" "_law_vector" s_law_vector fa fd ∧ Binds κ.K fd ["pool", "far"] []
  d_law_net : ∃ fa fd, mg "_law_net" = some (.ref fa) ∧ L2.Fun κ.K "_law_net" "_law_net" s_law_net fa fd ∧ Binds κ.K fd ["pool", "far"] []
  d_law_area : ∃ fa fd, mg "_law_area" = some (.ref fa) ∧ L2.Fun κ.K "_law_area" "_law_area" s_law_area fa fd ∧ Binds κ.K fd ["net"] []
  d_law_is_dot : ∃ fa fd, mg "_law_is_dot" = some (.ref fa) ∧ L2.Fun κ.K "_law_is_dot" "_law_is_dot" s_law_is_dot fa fd ∧ Binds κ.K fd ["net", "place"] []
  d_law_same_dots : ∃ fa fd, mg "_law_same_dots" = some (.ref fa) ∧ L2.Fun κ.K "_law_same_dots" "_law_same_dots" s_law_same_dots fa fd ∧ Binds κ.K fd ["one", "other"] []
  d_form_of_all : ∃ fa fd, mg "form_of_all" = some (.ref fa) ∧ L2.Fun κ.K "form_of_all" "form_of_all" s_form_of_all fa fd ∧ Binds κ.K fd ["vectors"] []
  d_form_of : ∃ fa fd, mg "form_of" = some (.ref fa) ∧ L2.Fun κ.K "form_of" "form_of" s_form_of fa fd ∧ Binds κ.K fd ["net"] []
  d_law_pick : ∃ fa fd, mg "_law_pick" = some (.ref fa) ∧ L2.Fun κ.K "_law_pick" "_law_pick" s_law_pick fa fd ∧ Binds κ.K fd ["pool", "options"] []
  d_law_same : ∃ fa fd, mg "_law_same" = some (.ref fa) ∧ L2.Fun κ.K "_law_same" "_law_same" s_law_same fa fd ∧ Binds κ.K fd ["actual", "due"] []
  d_is_dot : ∃ fa fd, mg "is_dot" = some (.ref fa) ∧ L2.Fun κ.K "is_dot" "is_dot" s_is_dot fa fd ∧ Binds κ.K fd ["net", "place"] []
  d_is_square : ∃ fa fd, mg "is_square" = some (.ref fa) ∧ L2.Fun κ.K "is_square" "is_square" s_is_square fa fd ∧ Binds κ.K fd ["net"] []
  d_mirrors : ∃ fa fd, mg "mirrors" = some (.ref fa) ∧ L2.Fun κ.K "mirrors" "mirrors" s_mirrors fa fd ∧ Binds κ.K fd ["net"] []
  d_inner : ∃ fa fd, mg "inner" = some (.ref fa) ∧ L2.Fun κ.K "inner" "inner" s_inner fa fd ∧ Binds κ.K fd ["one", "other"] []
  d_reduced : ∃ fa fd, mg "reduced" = some (.ref fa) ∧ L2.Fun κ.K "reduced" "reduced" s_reduced fa fd ∧ Binds κ.K fd ["net"] []
  d_law_least : ∃ fa fd, mg "_law_least" = some (.ref fa) ∧ L2.Fun κ.K "_law_least" "_law_least" s_law_least fa fd ∧ Binds κ.K fd ["net"] []
  d_cross : ∃ fa fd, mg "cross" = some (.ref fa) ∧ L2.Fun κ.K "cross" "cross" s_cross fa fd ∧ Binds κ.K fd ["one", "other"] []
  d_area : ∃ fa fd, mg "area" = some (.ref fa) ∧ L2.Fun κ.K "area" "area" s_area fa fd ∧ Binds κ.K fd ["net"] []
  d_law : ∃ fa fd, mg "law" = some (.ref fa) ∧ L2.Fun κ.K "law" "law" s_law fa fd ∧ Binds κ.K fd ["script"] []
  z_abs : mg "abs" = none
  z_all : mg "all" = none
  z_bool : mg "bool" = none
  z_dict : mg "dict" = none
  z_int : mg "int" = none
  z_isinstance : mg "isinstance" = none
  z_len : mg "len" = none
  z_list : mg "list" = none
  z_range : mg "range" = none
  z_sorted : mg "sorted" = none
  z_str : mg "str" = none
  z_tuple : mg "tuple" = none
  b_gcd : mg "gcd" = some (.builtin "math.gcd")
section
variable {pr : Program} {w : World} {κ : Kx} {mg : Str → Option Value} {base : Heap}
theorem g_law_mixed (T : Facts κ mg) : Gbl κ pr w mg base "_law_mixed" ["number", "place"] 1 f_law_mixed := by
  obtain ⟨fa, fd, a1, a2, a3⟩ := T.d_law_mixed
  refine ⟨fa, fd, a1, a2.kp, a3, fn_ok (N := N_law_mixed) (m := m_law_mixed) a2 sc_law_mixed fun cdv A outer s H E hr => ?_⟩
  have nd := sc_law_mixed.nd
  have hu := hr.units
  exact (sd_cons (sd_set (ps_set (i := 2) nd rfl (by first | exact Or.inl rfl | exact Or.inr rfl) (ed_bin op_modB d_mod (od_e (ed_ty call_intB n_int (by rfl) T.z_int bt_int (os_cons (od_e (ed_bin op_addAll d_add (od_e (ed_bin op_addAll d_add (od_e (ed_bin op_mulB d_mulI (od_p (pv 0)) (od_e (ed_const pe_int (fun _ => .int _))))) (od_e (ed_bin op_mulB d_mulI (od_p (pv 1)) (od_e (ed_const pe_int (fun _ => .int _))))))) (od_e (ed_const pe_int (fun _ => .int _))))) os_nil))) (od_e (ed_const pe_int (fun _ => .int _)))) (by rfl))) (sd_cons (sd_set (ps_set (i := 3) nd rfl (by first | exact Or.inl rfl | exact Or.inr rfl) (ed_bin op_modB d_mod (od_e (ed_ty call_intB n_int (by rfl) T.z_int bt_int (os_cons (od_e (ed_bin op_addAll d_add (od_e (ed_bin op_addAll d_add (od_e (ed_bin op_mulB d_mulI (od_p (pv 2)) (od_p (pv 2)))) (od_e (ed_bin op_mulB d_mulI (od_e (ed_const pe_int (fun _ => .int _))) (od_p (pv 2)))))) (od_p (pv 1)))) os_nil))) (od_e (ed_const pe_int (fun _ => .int _)))) (by rfl))) (sd_cons (sd_set (ps_set (i := 4) nd rfl (by first | exact Or.inl rfl | exact Or.inr rfl) (ed_bin op_modB d_mod (od_e (ed_ty call_intB n_int (by rfl) T.z_int bt_int (os_cons (od_e (ed_bin op_addAll d_add (od_e (ed_bin op_mulB d_mulI (od_p (pv 3)) (od_p (pv 3)))) (od_p (pv 2)))) os_nil))) (od_e (ed_const pe_int (fun _ => .int _)))) (by rfl))) (sd_one (sd_ret (ed_bin op_addAll d_add (od_e (ed_bin op_mulB d_mulI (od_p (pv 3)) (od_e (ed_const pe_int (fun _ => .int _))))) (od_p (pv 4))))))))
theorem g_law_rest (T : Facts κ mg) : Gbl κ pr w mg base "_law_rest" ["script", "place", "fills"] 2 f_law_rest := by
  obtain ⟨fa, fd, a1, a2, a3⟩ := T.d_law_rest
  refine ⟨fa, fd, a1, a2.kp, a3, fn_ok (N := N_law_rest) (m := m_law_rest) a2 sc_law_rest fun cdv A outer s H E hr => ?_⟩
  have nd := sc_law_rest.nd
  have hu := hr.units
  exact (sd_cons (sd_set (ps_set (i := 3) nd rfl (by first | exact Or.inl rfl | exact Or.inr rfl) (ed_const pe_int (fun _ => .int _)) (by rfl))) (sd_cons (sd_if (td_cmp op_gt d_gtI (od_e (ed_blt call_lenAll n_len (by rfl) T.z_len bt_len (os_cons (od_p (pv 0)) os_nil))) (od_e (ed_const pe_int (fun _ => .int _))) (by rfl)) (sd_one (sd_set (ps_set (i := 3) nd rfl (by first | exact Or.inl rfl | exact Or.inr rfl) (ed_ty call_intB n_int (by rfl) T.z_int bt_int (os_cons (od_e (ed_ix ix_seq d_ix (od_p (pv 0)) (od_e (ed_bin op_modB d_mod (od_e (ed_ty call_intB n_int (by rfl) T.z_int bt_int (os_cons (od_p (pv 1)) os_nil))) (od_e (ed_blt call_lenAll n_len (by rfl) T.z_len bt_len (os_cons (od_p (pv 0)) os_nil))))) (fun _ _ => rfl))) os_nil)) (by rfl)))) sd_nil) (sd_cons (sd_if (td_cmp op_lt d_ltI (od_p (pv 3)) (od_e (ed_const pe_int (fun _ => .int _))) (by rfl)) (sd_one (sd_set (ps_set (i := 3) nd rfl (by first | exact Or.inl rfl | exact Or.inr rfl) (ed_bin op_subC d_sub (od_e (ed_const pe_int (fun _ => .int _))) (od_e (ed_bin op_mulB d_mulI (od_e (ed_const pe_int (fun _ => .int _))) (od_p (pv 3))))) (by rfl)))) sd_nil) (sd_cons (sd_if (PW.pt (tw_and (td_cmp (op_eqD hu) d_eq (od_p (pv 2)) (od_e (ed_const pe_int (fun _ => .int _))) (by rfl)) (tw_and (td_cmp op_lt d_ltI (od_p (pv 1)) (od_e (ed_blt call_lenAll n_len (by rfl) T.z_len bt_len (os_cons (od_p (pv 0)) os_nil))) (by rfl)) (tw_and1 (td_cmp op_ge d_geI (od_p (pv 3)) (od_e (ed_bin op_pow d_pow (od_e (ed_const pe_int (fun _ => .int _))) (od_e (ed_const pe_int (fun _ => .int _))))) (by rfl)))))) (sd_one (sd_ret (ed_bin op_subC d_sub (od_p (pv 3)) (od_e (ed_bin op_pow d_pow (od_e (ed_const pe_int (fun _ => .int _))) (od_e (ed_const pe_int (fun _ => .int _)))))))) sd_nil) (sd_one (sd_ret (ed_call rfl (g_law_mixed T) (hr.mono (by decide)) (by rfl) (os_cons (od_e (ed_bin op_addAll d_add (od_p (pv 3)) (od_e (ed_bin op_mulB d_mulI (od_p (pv 2)) (od_e (ed_const pe_int (fun _ => .int _))))))) (os_cons (od_p (pv 1)) os_nil)) rfl)))))))
theorem g_law_pool (T : Facts κ mg) : GblN κ pr w mg base "_law_pool" ["script"] 3 f_law_pool := by
  obtain ⟨fa, fd, a1, a2, a3⟩ := T.d_law_pool
  refine ⟨fa, fd, a1, a2.kp, a3, fn_okN (N := N_law_pool) (m := m_law_pool) a2 sc_law_pool rfl fun cdv A outer s H E hr => ?_⟩
  have nd := sc_law_pool.nd
  have hu := hr.units
  exact (eo_lst (os_cons (od_e (ed_var (pv 0))) (os_cons (od_e (ed_const pe_int (fun _ => .int _))) (os_cons (od_e (ed_call rfl (g_law_rest T) (hr.mono (by decide)) (by rfl) (os_cons (od_p (pv 0)) (os_cons (od_e (ed_const pe_int (fun _ => .int _))) (os_cons (od_e (ed_const pe_int (fun _ => .int _))) os_nil))) rfl)) (os_cons (od_e (ed_const pe_int (fun _ => .int _))) os_nil)))))
theorem g_nets_of (T : Facts κ mg) : Gbl κ pr w mg base "nets_of" ["n"] 1 f_nets_of := by
  obtain ⟨fa, fd, a1, a2, a3⟩ := T.d_nets_of
  refine ⟨fa, fd, a1, a2.kp, a3, fn_ok (N := N_nets_of) (m := m_nets_of) a2 sc_nets_of fun cdv A outer s H E hr => ?_⟩
  have nd := sc_nets_of.nd
  have hu := hr.units
  exact (sd_cons (sd_own (ps_set (i := 1) nd rfl (by first | exact Or.inl rfl | exact Or.inr rfl) (eo_lst os_nil) (by rfl))) (sd_cons (sd_for PassesOwn.never rfl (it_range2 (by rfl) T.z_range (os_cons (od_e (ed_const pe_int (fun _ => .int _))) (os_cons (od_e (ed_bin op_addAll d_add (od_p (pv 0)) (od_e (ed_const pe_int (fun _ => .int _))))) os_nil))) (gd_name (pg_name nd rfl (by first | exact Or.inl rfl | exact Or.inr rfl))) (sd_one (sd_if (td_cmp (op_eqD hu) d_eq (od_e (ed_bin op_modB d_mod (od_p (pv 0)) (od_p (pv 2)))) (od_e (ed_const pe_int (fun _ => .int _))) (by rfl)) (sd_one (sd_expr (ed_mutL rfl m_extend PySem.F.slot_list_extend PySem.F.type_list_extend mt_extR (pv 1) (os_cons (od_e (ed_of (eo_comp (own := [(("b" : Str), 3)]) (pe_lc (own := [(("b" : Str), 3)]) rfl nd (it_range1 (by rfl) T.z_range (os_cons (od_p (pv 2)) os_nil)) (blkOk_by (N := N_nets_of) (sc := defScope s_nets_of) (by decide +kernel)) (fun _ _ _ _ _ => (gd_name (pg_name nd rfl (by first | exact Or.inl rfl | exact Or.inr rfl)))) (fun _ _ _ _ _ => tt_nil) (fun _ _ _ _ _ => (ed_tup (os_cons (od_e (ed_tup (os_cons (od_e (ed_var (pv 2))) (os_cons (od_e (ed_const pe_int (fun _ => .int _))) os_nil)))) (os_cons (od_e (ed_tup (os_cons (od_e (ed_var (pv 3))) (os_cons (od_e (ed_bin op_divB d_div (od_p (pv 0)) (od_p (pv 2)))) os_nil)))) os_nil)))))))) os_nil)))) sd_nil))) (sd_one (sd_ret (ed_of (eo_blt (cr_sortedD hu) o_sorted (by rfl) T.z_sorted bt_sorted (os_cons (od_p (pv 1)) os_nil)))))))
theorem g_law_next (T : Facts κ mg) : Gbl κ pr w mg base "_law_next" ["pool"] 3 f_law_next := by
  obtain ⟨fa, fd, a1, a2, a3⟩ := T.d_law_next
  refine ⟨fa, fd, a1, a2.kp, a3, fn_ok (N := N_law_next) (m := m_law_next) a2 sc_law_next fun cdv A outer s H E hr => ?_⟩
  have nd := sc_law_next.nd
  have hu := hr.units
  exact (sd_cons (sd_setL (pv 0) (ed_const pe_int (fun _ => .int _)) (ed_bin op_addAll d_add (od_e (ed_ix ix_seq d_ix (od_p (pv 0)) (od_e (ed_const pe_int (fun _ => .int _))) (fun _ _ => rfl))) (od_e (ed_const pe_int (fun _ => .int _))))) (sd_cons (sd_setL (pv 0) (ed_const pe_int (fun _ => .int _)) (ed_call rfl (g_law_rest T) (hr.mono (by decide)) (by rfl) (os_cons (od_e (ed_ix ix_seq d_ix (od_p (pv 0)) (od_e (ed_const pe_int (fun _ => .int _))) (fun _ _ => rfl))) (os_cons (od_e (ed_ix ix_seq d_ix (od_p (pv 0)) (od_e (ed_const pe_int (fun _ => .int _))) (fun _ _ => rfl))) (os_cons (od_e (ed_const pe_int (fun _ => .int _))) os_nil))) rfl)) (sd_one (sd_setL (pv 0) (ed_const pe_int (fun _ => .int _)) (ed_const pe_int (fun _ => .int _))))))
theorem g_law_draw (T : Facts κ mg) : Gbl κ pr w mg base "_law_draw" ["pool", "limit"] 3 f_law_draw := by
  obtain ⟨fa, fd, a1, a2, a3⟩ := T.d_law_draw
  refine ⟨fa, fd, a1, a2.kp, a3, fn_ok (N := N_law_draw) (m := m_law_draw) a2 sc_law_draw fun cdv A outer s H E hr => ?_⟩
  have nd := sc_law_draw.nd
  have hu := hr.units
  exact (sd_cons (sd_if (td_cmp op_le d_leI (od_e (ed_ix ix_seq d_ix (od_p (pv 0)) (od_e (ed_const pe_int (fun _ => .int _))) (fun _ _ => rfl))) (od_e (ed_const pe_int (fun _ => .int _))) (by rfl)) (sd_cons (sd_setL (pv 0) (ed_const pe_int (fun _ => .int _)) (ed_bin op_addAll d_add (od_e (ed_ix ix_seq d_ix (od_p (pv 0)) (od_e (ed_const pe_int (fun _ => .int _))) (fun _ _ => rfl))) (od_e (ed_const pe_int (fun _ => .int _))))) (sd_one (sd_setL (pv 0) (ed_const pe_int (fun _ => .int _)) (ed_call rfl (g_law_rest T) (hr.mono (by decide)) (by rfl) (os_cons (od_e (ed_ix ix_seq d_ix (od_p (pv 0)) (od_e (ed_const pe_int (fun _ => .int _))) (fun _ _ => rfl))) (os_cons (od_e (ed_ix ix_seq d_ix (od_p (pv 0)) (od_e (ed_const pe_int (fun _ => .int _))) (fun _ _ => rfl))) (os_cons (od_e (ed_ix ix_seq d_ix (od_p (pv 0)) (od_e (ed_const pe_int (fun _ => .int _))) (fun _ _ => rfl))) os_nil))) rfl)))) sd_nil) (sd_cons (sd_set (ps_set (i := 2) nd rfl (by first | exact Or.inl rfl | exact Or.inr rfl) (ed_bin op_modB d_mod (od_e (ed_ty call_intB n_int (by rfl) T.z_int bt_int (os_cons (od_e (ed_ix ix_seq d_ix (od_p (pv 0)) (od_e (ed_const pe_int (fun _ => .int _))) (fun _ _ => rfl))) os_nil))) (od_p (pv 1))) (by rfl))) (sd_cons (sd_setL (pv 0) (ed_const pe_int (fun _ => .int _)) (ed_bin op_divB d_div (od_e (ed_ty call_intB n_int (by rfl) T.z_int bt_int (os_cons (od_e (ed_ix ix_seq d_ix (od_p (pv 0)) (od_e (ed_const pe_int (fun _ => .int _))) (fun _ _ => rfl))) os_nil))) (od_p (pv 1)))) (sd_one (sd_ret (ed_var (pv 2)))))))
theorem g_law_vector (T : Facts κ mg) : Gbl κ pr w mg base "_law_vector" ["pool", "far"] 4 f_law_vector := by
  obtain ⟨fa, fd, a1, a2, a3⟩ := T.d_law_vector
  refine ⟨fa, fd, a1, a2.kp, a3, fn_ok (N := N_law_vector) (m := m_law_vector) a2 sc_law_vector fun cdv A outer s H E hr => ?_⟩
  have nd := sc_law_vector.nd
  have hu := hr.units
  exact (sd_one (sd_ret (ed_tup (os_cons (od_e (ed_bin op_subC d_sub (od_e (ed_call rfl (g_law_draw T) (hr.mono (by decide)) (by rfl) (os_cons (od_p (pv 0)) (os_cons (od_e (ed_bin op_addAll d_add (od_e (ed_bin op_mulB d_mulI (od_e (ed_const pe_int (fun _ => .int _))) (od_p (pv 1)))) (od_e (ed_const pe_int (fun _ => .int _))))) os_nil)) rfl)) (od_p (pv 1)))) (os_cons (od_e (ed_bin op_subC d_sub (od_e (ed_call rfl (g_law_draw T) (hr.mono (by decide)) (by rfl) (os_cons (od_p (pv 0)) (os_cons (od_e (ed_bin op_addAll d_add (od_e (ed_bin op_mulB d_mulI (od_e (ed_const pe_int (fun _ => .int _))) (od_p (pv 1)))) (od_e (ed_const pe_int (fun _ => .int _))))) os_nil)) rfl)) (od_p (pv 1)))) os_nil)))))
theorem g_law_net (T : Facts κ mg) : Gbl κ pr w mg base "_law_net" ["pool", "far"] 5 f_law_net := by
  obtain ⟨fa, fd, a1, a2, a3⟩ := T.d_law_net
  refine ⟨fa, fd, a1, a2.kp, a3, fn_ok (N := N_law_net) (m := m_law_net) a2 sc_law_net fun cdv A outer s H E hr => ?_⟩
  have nd := sc_law_net.nd
  have hu := hr.units
  exact (sd_cons (sd_set (ps_set (i := 2) nd rfl (by first | exact Or.inl rfl | exact Or.inr rfl) (ed_call rfl (g_law_vector T) (hr.mono (by decide)) (by rfl) (os_cons (od_p (pv 0)) (os_cons (od_p (pv 1)) os_nil)) rfl) (by rfl))) (sd_cons (sd_set (ps_set (i := 3) nd rfl (by first | exact Or.inl rfl | exact Or.inr rfl) (ed_call rfl (g_law_vector T) (hr.mono (by decide)) (by rfl) (os_cons (od_p (pv 0)) (os_cons (od_p (pv 1)) os_nil)) rfl) (by rfl))) (sd_cons (sd_if (td_cmp (op_eqD hu) d_eq (od_e (ed_bin op_mulB d_mulI (od_e (ed_ix ix_seq d_ix (od_p (pv 2)) (od_e (ed_const pe_int (fun _ => .int _))) (fun _ _ => rfl))) (od_e (ed_ix ix_seq d_ix (od_p (pv 3)) (od_e (ed_const pe_int (fun _ => .int _))) (fun _ _ => rfl))))) (od_e (ed_bin op_mulB d_mulI (od_e (ed_ix ix_seq d_ix (od_p (pv 2)) (od_e (ed_const pe_int (fun _ => .int _))) (fun _ _ => rfl))) (od_e (ed_ix ix_seq d_ix (od_p (pv 3)) (od_e (ed_const pe_int (fun _ => .int _))) (fun _ _ => rfl))))) (by rfl)) (sd_cons (sd_set (ps_set (i := 2) nd rfl (by first | exact Or.inl rfl | exact Or.inr rfl) (ed_tup (os_cons (od_e (ed_bin op_addAll d_add (od_e (ed_const pe_int (fun _ => .int _))) (od_e (ed_call rfl (g_law_draw T) (hr.mono (by decide)) (by rfl) (os_cons (od_p (pv 0)) (os_cons (od_p (pv 1)) os_nil)) rfl)))) (os_cons (od_e (ed_call rfl (g_law_draw T) (hr.mono (by decide)) (by rfl) (os_cons (od_p (pv 0)) (os_cons (od_p (pv 1)) os_nil)) rfl)) os_nil))) (by rfl))) (sd_one (sd_set (ps_set (i := 3) nd rfl (by first | exact Or.inl rfl | exact Or.inr rfl) (ed_tup (os_cons (od_e (ed_bin op_addAll d_add (od_e (ed_un un_neg d_neg (od_e (ed_ix ix_seq d_ix (od_p (pv 2)) (od_e (ed_const pe_int (fun _ => .int _))) (fun _ _ => rfl))))) (od_e (ed_call rfl (g_law_draw T) (hr.mono (by decide)) (by rfl) (os_cons (od_p (pv 0)) (os_cons (od_e (ed_const pe_int (fun _ => .int _))) os_nil)) rfl)))) (os_cons (od_e (ed_bin op_addAll d_add (od_e (ed_ix ix_seq d_ix (od_p (pv 2)) (od_e (ed_const pe_int (fun _ => .int _))) (fun _ _ => rfl))) (od_e (ed_const pe_int (fun _ => .int _))))) os_nil))) (by rfl))))) sd_nil) (sd_cons (sd_if (td_cmp (op_eqD hu) d_eq (od_e (ed_bin op_mulB d_mulI (od_e (ed_ix ix_seq d_ix (od_p (pv 2)) (od_e (ed_const pe_int (fun _ => .int _))) (fun _ _ => rfl))) (od_e (ed_ix ix_seq d_ix (od_p (pv 3)) (od_e (ed_const pe_int (fun _ => .int _))) (fun _ _ => rfl))))) (od_e (ed_bin op_mulB d_mulI (od_e (ed_ix ix_seq d_ix (od_p (pv 2)) (od_e (ed_const pe_int (fun _ => .int _))) (fun _ _ => rfl))) (od_e (ed_ix ix_seq d_ix (od_p (pv 3)) (od_e (ed_const pe_int (fun _ => .int _))) (fun _ _ => rfl))))) (by rfl)) (sd_one (sd_set (ps_set (i := 3) nd rfl (by first | exact Or.inl rfl | exact Or.inr rfl) (ed_tup (os_cons (od_e (ed_const pe_int (fun _ => .int _))) (os_cons (od_e (ed_const pe_int (fun _ => .int _))) os_nil))) (by rfl)))) sd_nil) (sd_one (sd_ret (ed_tup (os_cons (od_e (ed_var (pv 2))) (os_cons (od_e (ed_var (pv 3))) os_nil)))))))))
theorem g_law_area (T : Facts κ mg) : Gbl κ pr w mg base "_law_area" ["net"] 1 f_law_area := by
  obtain ⟨fa, fd, a1, a2, a3⟩ := T.d_law_area
  refine ⟨fa, fd, a1, a2.kp, a3, fn_ok (N := N_law_area) (m := m_law_area) a2 sc_law_area fun cdv A outer s H E hr => ?_⟩
  have nd := sc_law_area.nd
  have hu := hr.units
  exact (sd_one (sd_ret (ed_blt call_absB n_abs (by rfl) T.z_abs bt_abs (os_cons (od_e (ed_bin op_subC d_sub (od_e (ed_bin op_mulB d_mulI (od_e (ed_ix ix_seq d_ix (od_e (ed_ix ix_seq d_ix (od_p (pv 0)) (od_e (ed_const pe_int (fun _ => .int _))) (fun _ _ => rfl))) (od_e (ed_const pe_int (fun _ => .int _))) (fun _ _ => rfl))) (od_e (ed_ix ix_seq d_ix (od_e (ed_ix ix_seq d_ix (od_p (pv 0)) (od_e (ed_const pe_int (fun _ => .int _))) (fun _ _ => rfl))) (od_e (ed_const pe_int (fun _ => .int _))) (fun _ _ => rfl))))) (od_e (ed_bin op_mulB d_mulI (od_e (ed_ix ix_seq d_ix (od_e (ed_ix ix_seq d_ix (od_p (pv 0)) (od_e (ed_const pe_int (fun _ => .int _))) (fun _ _ => rfl))) (od_e (ed_const pe_int (fun _ => .int _))) (fun _ _ => rfl))) (od_e (ed_ix ix_seq d_ix (od_e (ed_ix ix_seq d_ix (od_p (pv 0)) (od_e (ed_const pe_int (fun _ => .int _))) (fun _ _ => rfl))) (od_e (ed_const pe_int (fun _ => .int _))) (fun _ _ => rfl))))))) os_nil))))
theorem g_law_is_dot (T : Facts κ mg) : Gbl κ pr w mg base "_law_is_dot" ["net", "place"] 1 f_law_is_dot := by
  obtain ⟨fa, fd, a1, a2, a3⟩ := T.d_law_is_dot
  refine ⟨fa, fd, a1, a2.kp, a3, fn_ok (N := N_law_is_dot) (m := m_law_is_dot) a2 sc_law_is_dot fun cdv A outer s H E hr => ?_⟩
  have nd := sc_law_is_dot.nd
  have hu := hr.units
  exact (sd_cons (sd_unp (ed_var (pv 0)) (gd_tup rfl rfl (gds_cons (gd_tup rfl rfl (gds_cons (gd_name (pg_name nd rfl (by first | exact Or.inl rfl | exact Or.inr rfl))) (gds_cons (gd_name (pg_name nd rfl (by first | exact Or.inl rfl | exact Or.inr rfl))) gds_nil))) (gds_cons (gd_tup rfl rfl (gds_cons (gd_name (pg_name nd rfl (by first | exact Or.inl rfl | exact Or.inr rfl))) (gds_cons (gd_name (pg_name nd rfl (by first | exact Or.inl rfl | exact Or.inr rfl))) gds_nil))) gds_nil)))) (sd_cons (sd_set (ps_set (i := 6) nd rfl (by first | exact Or.inl rfl | exact Or.inr rfl) (ed_bin op_subC d_sub (od_e (ed_bin op_mulB d_mulI (od_p (pv 2)) (od_p (pv 5)))) (od_e (ed_bin op_mulB d_mulI (od_p (pv 3)) (od_p (pv 4))))) (by rfl))) (sd_cons (sd_set (ps_set (i := 7) nd rfl (by first | exact Or.inl rfl | exact Or.inr rfl) (ed_bin op_subC d_sub (od_e (ed_bin op_mulB d_mulI (od_e (ed_ix ix_seq d_ix (od_p (pv 1)) (od_e (ed_const pe_int (fun _ => .int _))) (fun _ _ => rfl))) (od_p (pv 5)))) (od_e (ed_bin op_mulB d_mulI (od_e (ed_ix ix_seq d_ix (od_p (pv 1)) (od_e (ed_const pe_int (fun _ => .int _))) (fun _ _ => rfl))) (od_p (pv 4))))) (by rfl))) (sd_cons (sd_set (ps_set (i := 8) nd rfl (by first | exact Or.inl rfl | exact Or.inr rfl) (ed_bin op_subC d_sub (od_e (ed_bin op_mulB d_mulI (od_p (pv 2)) (od_e (ed_ix ix_seq d_ix (od_p (pv 1)) (od_e (ed_const pe_int (fun _ => .int _))) (fun _ _ => rfl))))) (od_e (ed_bin op_mulB d_mulI (od_p (pv 3)) (od_e (ed_ix ix_seq d_ix (od_p (pv 1)) (od_e (ed_const pe_int (fun _ => .int _))) (fun _ _ => rfl)))))) (by rfl))) (sd_one (sd_ret (ed_and (ed_cmp (op_eqD hu) d_eq (od_e (ed_bin op_modB d_mod (od_e (ed_ty call_intB n_int (by rfl) T.z_int bt_int (os_cons (od_p (pv 7)) os_nil))) (od_e (ed_blt call_absB n_abs (by rfl) T.z_abs bt_abs (os_cons (od_p (pv 6)) os_nil))))) (od_e (ed_const pe_int (fun _ => .int _))) (by rfl)) (ed_one (ed_cmp (op_eqD hu) d_eq (od_e (ed_bin op_modB d_mod (od_e (ed_ty call_intB n_int (by rfl) T.z_int bt_int (os_cons (od_p (pv 8)) os_nil))) (od_e (ed_blt call_absB n_abs (by rfl) T.z_abs bt_abs (os_cons (od_p (pv 6)) os_nil))))) (od_e (ed_const pe_int (fun _ => .int _))) (by rfl))))))))))
theorem g_law_same_dots (T : Facts κ mg) : Gbl κ pr w mg base "_law_same_dots" ["one", "other"] 2 f_law_same_dots := by
  obtain ⟨fa, fd, a1, a2, a3⟩ := T.d_law_same_dots
  refine ⟨fa, fd, a1, a2.kp, a3, fn_ok (N := N_law_same_dots) (m := m_law_same_dots) a2 sc_law_same_dots fun cdv A outer s H E hr => ?_⟩
  have nd := sc_law_same_dots.nd
  have hu := hr.units
  exact (sd_cons (sd_if (td_cmp (op_neD hu) d_ne (od_e (ed_call rfl (g_law_area T) (hr.mono (by decide)) (by rfl) (os_cons (od_p (pv 0)) os_nil) rfl)) (od_e (ed_call rfl (g_law_area T) (hr.mono (by decide)) (by rfl) (os_cons (od_p (pv 1)) os_nil) rfl)) (by rfl)) (sd_one (sd_ret (ed_const pe_bl (fun _ => .bl _)))) sd_nil) (sd_one (sd_ret (ed_cmp (op_eqD hu) d_eq (od_e (ed_blt call_lenAll n_len (by rfl) T.z_len bt_len (os_cons (od_e (ed_of (eo_comp (own := [(("vector" : Str), 2)]) (pe_lc (own := [(("vector" : Str), 2)]) rfl nd (it_seq rfl (ed_var (pv 0))) (blkOk_by (N := N_law_same_dots) (sc := defScope s_law_same_dots) (by decide +kernel)) (fun _ _ _ _ _ => (gd_name (pg_name nd rfl (by first | exact Or.inl rfl | exact Or.inr rfl)))) (fun _ _ _ _ _ => (tt_one (td_not (td_val (ed_call rfl (g_law_is_dot T) (hr.mono (by decide)) (by rfl) (os_cons (od_p (pv 1)) (os_cons (od_p (pv 2)) os_nil)) rfl))))) (fun _ _ _ _ _ => (ed_var (pv 2))))))) os_nil))) (od_e (ed_const pe_int (fun _ => .int _))) (by rfl)))))
theorem g_form_of_all (T : Facts κ mg) : Gbl κ pr w mg base "form_of_all" ["vectors"] 1 f_form_of_all := by
  obtain ⟨fa, fd, a1, a2, a3⟩ := T.d_form_of_all
  refine ⟨fa, fd, a1, a2.kp, a3, fn_ok (N := N_form_of_all) (m := m_form_of_all) a2 sc_form_of_all fun cdv A outer s H E hr => ?_⟩
  have nd := sc_form_of_all.nd
  have hu := hr.units
  exact (sd_cons (sd_set (ps_set (i := 1) nd rfl (by first | exact Or.inl rfl | exact Or.inr rfl) (ed_const pe_int (fun _ => .int _)) (by rfl))) (sd_cons (sd_set (ps_set (i := 2) nd rfl (by first | exact Or.inl rfl | exact Or.inr rfl) (ed_tup (os_cons (od_e (ed_const pe_int (fun _ => .int _))) (os_cons (od_e (ed_const pe_int (fun _ => .int _))) os_nil))) (by rfl))) (sd_cons (sd_for PassesOwn.never rfl (it_seq rfl (ed_var (pv 0))) (gd_name (pg_name nd rfl (by first | exact Or.inl rfl | exact Or.inr rfl))) (sd_cons (sd_set (ps_set (i := 4) nd rfl (by first | exact Or.inl rfl | exact Or.inr rfl) (ed_ty call_tupleB n_tuple (by rfl) T.z_tuple bt_tuple (os_cons (od_p (pv 3)) os_nil)) (by rfl))) (sd_cons (sd_while PassesOwn.never (td_cmp (op_neD hu) d_ne (od_e (ed_ix ix_seq d_ix (od_p (pv 4)) (od_e (ed_const pe_int (fun _ => .int _))) (fun _ _ => rfl))) (od_e (ed_const pe_int (fun _ => .int _))) (by rfl)) (sd_cons (sd_set (ps_set (i := 5) nd rfl (by first | exact Or.inl rfl | exact Or.inr rfl) (ed_bin op_divB d_div (od_e (ed_ix ix_seq d_ix (od_p (pv 2)) (od_e (ed_const pe_int (fun _ => .int _))) (fun _ _ => rfl))) (od_e (ed_ix ix_seq d_ix (od_p (pv 4)) (od_e (ed_const pe_int (fun _ => .int _))) (fun _ _ => rfl)))) (by rfl))) (sd_one (sd_par rfl nd rfl rfl (by decide) rfl rfl (os_cons (od_e (ed_var (pv 4))) (os_cons (od_e (ed_tup (os_cons (od_e (ed_bin op_subC d_sub (od_e (ed_ix ix_seq d_ix (od_p (pv 2)) (od_e (ed_const pe_int (fun _ => .int _))) (fun _ _ => rfl))) (od_e (ed_bin op_mulB d_mulI (od_p (pv 5)) (od_e (ed_ix ix_seq d_ix (od_p (pv 4)) (od_e (ed_const pe_int (fun _ => .int _))) (fun _ _ => rfl))))))) (os_cons (od_e (ed_bin op_subC d_sub (od_e (ed_ix ix_seq d_ix (od_p (pv 2)) (od_e (ed_const pe_int (fun _ => .int _))) (fun _ _ => rfl))) (od_e (ed_bin op_mulB d_mulI (od_p (pv 5)) (od_e (ed_ix ix_seq d_ix (od_p (pv 4)) (od_e (ed_const pe_int (fun _ => .int _))) (fun _ _ => rfl))))))) os_nil)))) os_nil)) (by rfl))))) (sd_one (sd_set (ps_set (i := 1) nd rfl (by first | exact Or.inl rfl | exact Or.inr rfl) (ed_bfun cr_gcd n_gcd (by rfl) T.b_gcd (os_cons (od_p (pv 1)) (os_cons (od_e (ed_ix ix_seq d_ix (od_p (pv 4)) (od_e (ed_const pe_int (fun _ => .int _))) (fun _ _ => rfl))) os_nil))) (by rfl))))))) (sd_cons (sd_if (td_cmp op_lt d_ltI (od_e (ed_ix ix_seq d_ix (od_p (pv 2)) (od_e (ed_const pe_int (fun _ => .int _))) (fun _ _ => rfl))) (od_e (ed_const pe_int (fun _ => .int _))) (by rfl)) (sd_one (sd_set (ps_set (i := 2) nd rfl (by first | exact Or.inl rfl | exact Or.inr rfl) (ed_tup (os_cons (od_e (ed_un un_neg d_neg (od_e (ed_ix ix_seq d_ix (od_p (pv 2)) (od_e (ed_const pe_int (fun _ => .int _))) (fun _ _ => rfl))))) (os_cons (od_e (ed_un un_neg d_neg (od_e (ed_ix ix_seq d_ix (od_p (pv 2)) (od_e (ed_const pe_int (fun _ => .int _))) (fun _ _ => rfl))))) os_nil))) (by rfl)))) sd_nil) (sd_one (sd_ret (ed_tup (os_cons (od_e (ed_tup (os_cons (od_e (ed_var (pv 1))) (os_cons (od_e (ed_const pe_int (fun _ => .int _))) os_nil)))) (os_cons (od_e (ed_tup (os_cons (od_e (ed_bin op_modB d_mod (od_e (ed_ix ix_seq d_ix (od_p (pv 2)) (od_e (ed_const pe_int (fun _ => .int _))) (fun _ _ => rfl))) (od_p (pv 1)))) (os_cons (od_e (ed_ix ix_seq d_ix (od_p (pv 2)) (od_e (ed_const pe_int (fun _ => .int _))) (fun _ _ => rfl))) os_nil)))) os_nil)))))))))
theorem g_form_of (T : Facts κ mg) : Gbl κ pr w mg base "form_of" ["net"] 2 f_form_of := by
  obtain ⟨fa, fd, a1, a2, a3⟩ := T.d_form_of
  refine ⟨fa, fd, a1, a2.kp, a3, fn_ok (N := N_form_of) (m := m_form_of) a2 sc_form_of fun cdv A outer s H E hr => ?_⟩
  have nd := sc_form_of.nd
  have hu := hr.units
  exact (sd_one (sd_ret (ed_call rfl (g_form_of_all T) (hr.mono (by decide)) (by rfl) (os_cons (od_p (pv 0)) os_nil) rfl)))
theorem g_law_pick (T : Facts κ mg) : Gbl κ pr w mg base "_law_pick" ["pool", "options"] 4 f_law_pick := by
  obtain ⟨fa, fd, a1, a2, a3⟩ := T.d_law_pick
  refine ⟨fa, fd, a1, a2.kp, a3, fn_ok (N := N_law_pick) (m := m_law_pick) a2 sc_law_pick fun cdv A outer s H E hr => ?_⟩
  have nd := sc_law_pick.nd
  have hu := hr.units
  exact (sd_one (sd_ret (ed_ix ix_seq d_ix (od_p (pv 1)) (od_e (ed_call rfl (g_law_draw T) (hr.mono (by decide)) (by rfl) (os_cons (od_p (pv 0)) (os_cons (od_e (ed_blt call_lenAll n_len (by rfl) T.z_len bt_len (os_cons (od_p (pv 1)) os_nil))) os_nil)) rfl)) (fun _ _ => rfl))))
theorem g_law_same (T : Facts κ mg) : ∀ n : Nat, Gbl κ pr w mg base "_law_same" ["actual", "due"] (1 + n) (f_law_same n)
  | 0 => by
    obtain ⟨fa, fd, a1, a2, a3⟩ := T.d_law_same
    exact ⟨fa, fd, a1, a2.kp, a3, fn_none⟩
  | n + 1 => by
    have GS := g_law_same T n
    obtain ⟨fa, fd, a1, a2, a3⟩ := T.d_law_same
    refine ⟨fa, fd, a1, a2.kp, a3, fn_ok (N := N_law_same) (m := m_law_same (f_law_same n)) a2 sc_law_same fun cdv A outer s H E hr => ?_⟩
    have nd := sc_law_same.nd
    have hu := hr.units
    replace hr : Room (1 + n) _ := hr
    exact (sd_cons (sd_if (td_cmp op_isK0 d_is (od_p (pv 1)) (od_e (ed_const pe_non (fun _ => .non))) (by rfl)) (sd_one (sd_ret (ed_cmp op_isK0 d_is (od_p (pv 0)) (od_e (ed_const pe_non (fun _ => .non))) (by rfl)))) sd_nil) (sd_cons (sd_if (td_cmp op_isK0 d_is (od_p (pv 1)) (od_e (ed_const pe_bl (fun _ => .bl _))) (by rfl)) (sd_one (sd_ret (ed_cmp op_isK0 d_is (od_p (pv 0)) (od_e (ed_const pe_bl (fun _ => .bl _))) (by rfl)))) sd_nil) (sd_cons (sd_if (td_cmp op_isK0 d_is (od_p (pv 1)) (od_e (ed_const pe_bl (fun _ => .bl _))) (by rfl)) (sd_one (sd_ret (ed_cmp op_isK0 d_is (od_p (pv 0)) (od_e (ed_const pe_bl (fun _ => .bl _))) (by rfl)))) sd_nil) (sd_cons (sd_if (td_val (ed_isi rfl (by rfl) T.z_isinstance (od_p (pv 1)) (pe_bltn (by rfl) T.z_int bt_int rfl) bt_isinstance)) (sd_one (sd_ret (ed_and (ed_isi rfl (by rfl) T.z_isinstance (od_p (pv 0)) (pe_bltn (by rfl) T.z_int bt_int rfl) bt_isinstance) (ed_and (ed_notv (ed_isi rfl (by rfl) T.z_isinstance (od_p (pv 0)) (pe_bltn (by rfl) T.z_bool bt_bool rfl) bt_isinstance)) (ed_one (ed_cmp (op_eqD hu) d_eq (od_p (pv 0)) (od_p (pv 1)) (by rfl))))))) sd_nil) (sd_cons (sd_if (td_val (ed_isi rfl (by rfl) T.z_isinstance (od_p (pv 1)) (pe_bltn (by rfl) T.z_str bt_str rfl) bt_isinstance)) (sd_one (sd_ret (ed_and (ed_isi rfl (by rfl) T.z_isinstance (od_p (pv 0)) (pe_bltn (by rfl) T.z_str bt_str rfl) bt_isinstance) (ed_one (ed_cmp (op_eqD hu) d_eq (od_p (pv 0)) (od_p (pv 1)) (by rfl)))))) sd_nil) (sd_cons (sd_if (td_val (ed_isi rfl (by rfl) T.z_isinstance (od_p (pv 1)) (pe_bltn (by rfl) T.z_dict bt_dict rfl) bt_isinstance)) (sd_cons (sd_if (PW.pt (tw_or (td_not (td_val (ed_isi rfl (by rfl) T.z_isinstance (od_p (pv 0)) (pe_bltn (by rfl) T.z_dict bt_dict rfl) bt_isinstance))) (tw_or1 (td_cmp (op_neD hu) d_ne (od_e (ed_blt call_lenAll n_len (by rfl) T.z_len bt_len (os_cons (od_p (pv 0)) os_nil))) (od_e (ed_blt call_lenAll n_len (by rfl) T.z_len bt_len (os_cons (od_p (pv 1)) os_nil))) (by rfl))))) (sd_one (sd_ret (ed_const pe_bl (fun _ => .bl _)))) sd_nil) (sd_cons (sd_for PassesOwn.never rfl (it_seq rfl (ed_var (pv 1))) (gd_name (pg_name nd rfl (by first | exact Or.inl rfl | exact Or.inr rfl))) (sd_one sd_never)) (sd_one (sd_ret (ed_const pe_bl (fun _ => .bl _)))))) sd_nil) (sd_cons (sd_if (PW.pt (tw_or (td_cmp (op_neD hu) d_ne (od_e (ed_isi rfl (by rfl) T.z_isinstance (od_p (pv 0)) (pe_bltn (by rfl) T.z_tuple bt_tuple rfl) bt_isinstance)) (od_e (ed_isi rfl (by rfl) T.z_isinstance (od_p (pv 1)) (pe_bltn (by rfl) T.z_tuple bt_tuple rfl) bt_isinstance)) (by rfl)) (tw_or1 (td_cmp (op_neD hu) d_ne (od_e (ed_isi rfl (by rfl) T.z_isinstance (od_p (pv 0)) (pe_bltn (by rfl) T.z_list bt_list rfl) bt_isinstance)) (od_e (ed_isi rfl (by rfl) T.z_isinstance (od_p (pv 1)) (pe_bltn (by rfl) T.z_list bt_list rfl) bt_isinstance)) (by rfl))))) (sd_one (sd_ret (ed_const pe_bl (fun _ => .bl _)))) sd_nil) (sd_cons (sd_if (td_cmp (op_neD hu) d_ne (od_e (ed_blt call_lenAll n_len (by rfl) T.z_len bt_len (os_cons (od_p (pv 0)) os_nil))) (od_e (ed_blt call_lenAll n_len (by rfl) T.z_len bt_len (os_cons (od_p (pv 1)) os_nil))) (by rfl)) (sd_one (sd_ret (ed_const pe_bl (fun _ => .bl _)))) sd_nil) (sd_cons (sd_for PassesOwn.never rfl (it_range1 (by rfl) T.z_range (os_cons (od_e (ed_blt call_lenAll n_len (by rfl) T.z_len bt_len (os_cons (od_p (pv 1)) os_nil))) os_nil)) (gd_name (pg_name nd rfl (by first | exact Or.inl rfl | exact Or.inr rfl))) (sd_one (sd_if (td_not (td_val (ed_call rfl GS (hr.mono (by omega)) (by rfl) (os_cons (od_e (ed_ix ix_seq d_ix (od_p (pv 0)) (od_p (pv 3)) (fun _ _ => rfl))) (os_cons (od_e (ed_ix ix_seq d_ix (od_p (pv 1)) (od_p (pv 3)) (fun _ _ => rfl))) os_nil)) rfl))) (sd_one (sd_ret (ed_const pe_bl (fun _ => .bl _)))) sd_nil))) (sd_one (sd_ret (ed_const pe_bl (fun _ => .bl _)))))))))))))
theorem g_is_dot (T : Facts κ mg) : Gbl κ pr w mg base "is_dot" ["net", "place"] 3 f_is_dot := by
  obtain ⟨fa, fd, a1, a2, a3⟩ := T.d_is_dot
  refine ⟨fa, fd, a1, a2.kp, a3, fn_ok (N := N_is_dot) (m := m_is_dot) a2 sc_is_dot fun cdv A outer s H E hr => ?_⟩
  have nd := sc_is_dot.nd
  have hu := hr.units
  exact (sd_cons (sd_unp (ed_call rfl (g_form_of T) (hr.mono (by decide)) (by rfl) (os_cons (od_p (pv 0)) os_nil) rfl) (gd_tup rfl rfl (gds_cons (gd_tup rfl rfl (gds_cons (gd_name (pg_name nd rfl (by first | exact Or.inl rfl | exact Or.inr rfl))) (gds_cons (gd_name (pg_name nd rfl (by first | exact Or.inl rfl | exact Or.inr rfl))) gds_nil))) (gds_cons (gd_tup rfl rfl (gds_cons (gd_name (pg_name nd rfl (by first | exact Or.inl rfl | exact Or.inr rfl))) (gds_cons (gd_name (pg_name nd rfl (by first | exact Or.inl rfl | exact Or.inr rfl))) gds_nil))) gds_nil)))) (sd_one (sd_ret (ed_and (ed_cmp (op_eqD hu) d_eq (od_e (ed_bin op_modB d_mod (od_e (ed_ix ix_seq d_ix (od_p (pv 1)) (od_e (ed_const pe_int (fun _ => .int _))) (fun _ _ => rfl))) (od_p (pv 5)))) (od_e (ed_const pe_int (fun _ => .int _))) (by rfl)) (ed_one (ed_cmp (op_eqD hu) d_eq (od_e (ed_bin op_modB d_mod (od_e (ed_bin op_subC d_sub (od_e (ed_ix ix_seq d_ix (od_p (pv 1)) (od_e (ed_const pe_int (fun _ => .int _))) (fun _ _ => rfl))) (od_e (ed_bin op_mulB d_mulI (od_e (ed_bin op_divB d_div (od_e (ed_ix ix_seq d_ix (od_p (pv 1)) (od_e (ed_const pe_int (fun _ => .int _))) (fun _ _ => rfl))) (od_p (pv 5)))) (od_p (pv 4)))))) (od_p (pv 2)))) (od_e (ed_const pe_int (fun _ => .int _))) (by rfl)))))))
theorem g_is_square (T : Facts κ mg) : Gbl κ pr w mg base "is_square" ["net"] 4 f_is_square := by
  obtain ⟨fa, fd, a1, a2, a3⟩ := T.d_is_square
  refine ⟨fa, fd, a1, a2.kp, a3, fn_ok (N := N_is_square) (m := m_is_square) a2 sc_is_square fun cdv A outer s H E hr => ?_⟩
  have nd := sc_is_square.nd
  have hu := hr.units
  exact (sd_one (sd_ret (ed_blt (cr_all rfl) n_all (by rfl) T.z_all bt_all (os_cons (od_e (ed_of (eo_comp (own := [(("x" : Str), 1), (("y" : Str), 2)]) (pe_lc (own := [(("x" : Str), 1), (("y" : Str), 2)]) rfl nd (it_seq rfl (ed_var (pv 0))) (blkOk_by (N := N_is_square) (sc := defScope s_is_square) (by decide +kernel)) (fun _ _ _ _ _ => (gd_tup rfl rfl (gds_cons (gd_name (pg_name nd rfl (by first | exact Or.inl rfl | exact Or.inr rfl))) (gds_cons (gd_name (pg_name nd rfl (by first | exact Or.inl rfl | exact Or.inr rfl))) gds_nil)))) (fun _ _ _ _ _ => tt_nil) (fun _ _ _ _ _ => (ed_call rfl (g_is_dot T) (hr.mono (by decide)) (by rfl) (os_cons (od_p (pv 0)) (os_cons (od_e (ed_tup (os_cons (od_e (ed_un un_neg d_neg (od_p (pv 2)))) (os_cons (od_e (ed_var (pv 1))) os_nil)))) os_nil)) rfl)))))) os_nil))))
theorem g_mirrors (T : Facts κ mg) : Gbl κ pr w mg base "mirrors" ["net"] 4 f_mirrors := by
  obtain ⟨fa, fd, a1, a2, a3⟩ := T.d_mirrors
  refine ⟨fa, fd, a1, a2.kp, a3, fn_ok (N := N_mirrors) (m := m_mirrors) a2 sc_mirrors fun cdv A outer s H E hr => ?_⟩
  have nd := sc_mirrors.nd
  have hu := hr.units
  exact (sd_cons (sd_own (ps_set (i := 1) nd rfl (by first | exact Or.inl rfl | exact Or.inr rfl) (eo_lst os_nil) (by rfl))) (sd_cons (sd_if (td_val (ed_blt (cr_all rfl) n_all (by rfl) T.z_all bt_all (os_cons (od_e (ed_of (eo_comp (own := [(("x" : Str), 2), (("y" : Str), 3)]) (pe_lc (own := [(("x" : Str), 2), (("y" : Str), 3)]) rfl nd (it_seq rfl (ed_var (pv 0))) (blkOk_by (N := N_mirrors) (sc := defScope s_mirrors) (by decide +kernel)) (fun _ _ _ _ _ => (gd_tup rfl rfl (gds_cons (gd_name (pg_name nd rfl (by first | exact Or.inl rfl | exact Or.inr rfl))) (gds_cons (gd_name (pg_name nd rfl (by first | exact Or.inl rfl | exact Or.inr rfl))) gds_nil)))) (fun _ _ _ _ _ => tt_nil) (fun _ _ _ _ _ => (ed_call rfl (g_is_dot T) (hr.mono (by decide)) (by rfl) (os_cons (od_p (pv 0)) (os_cons (od_e (ed_tup (os_cons (od_e (ed_var (pv 3))) (os_cons (od_e (ed_var (pv 2))) os_nil)))) os_nil)) rfl)))))) os_nil))) (sd_one (sd_expr (ed_mutL rfl m_append PySem.F.slot_list_append PySem.F.type_list_append mt_append (pv 1) (os_cons (od_e (ed_const pe_str (fun _ => .str _))) os_nil)))) sd_nil) (sd_cons (sd_if (td_val (ed_blt (cr_all rfl) n_all (by rfl) T.z_all bt_all (os_cons (od_e (ed_of (eo_comp (own := [(("x" : Str), 2), (("y" : Str), 3)]) (pe_lc (own := [(("x" : Str), 2), (("y" : Str), 3)]) rfl nd (it_seq rfl (ed_var (pv 0))) (blkOk_by (N := N_mirrors) (sc := defScope s_mirrors) (by decide +kernel)) (fun _ _ _ _ _ => (gd_tup rfl rfl (gds_cons (gd_name (pg_name nd rfl (by first | exact Or.inl rfl | exact Or.inr rfl))) (gds_cons (gd_name (pg_name nd rfl (by first | exact Or.inl rfl | exact Or.inr rfl))) gds_nil)))) (fun _ _ _ _ _ => tt_nil) (fun _ _ _ _ _ => (ed_call rfl (g_is_dot T) (hr.mono (by decide)) (by rfl) (os_cons (od_p (pv 0)) (os_cons (od_e (ed_tup (os_cons (od_e (ed_un un_neg d_neg (od_p (pv 2)))) (os_cons (od_e (ed_var (pv 3))) os_nil)))) os_nil)) rfl)))))) os_nil))) (sd_one (sd_expr (ed_mutL rfl m_append PySem.F.slot_list_append PySem.F.type_list_append mt_append (pv 1) (os_cons (od_e (ed_const pe_str (fun _ => .str _))) os_nil)))) sd_nil) (sd_one (sd_ret (ed_var (pv 1)))))))
theorem g_inner (T : Facts κ mg) : Gbl κ pr w mg base "inner" ["one", "other"] 1 f_inner := by
  obtain ⟨fa, fd, a1, a2, a3⟩ := T.d_inner
  refine ⟨fa, fd, a1, a2.kp, a3, fn_ok (N := N_inner) (m := m_inner) a2 sc_inner fun cdv A outer s H E hr => ?_⟩
  have nd := sc_inner.nd
  have hu := hr.units
  exact (sd_one (sd_ret (ed_bin op_addAll d_add (od_e (ed_bin op_mulB d_mulI (od_e (ed_ix ix_seq d_ix (od_p (pv 0)) (od_e (ed_const pe_int (fun _ => .int _))) (fun _ _ => rfl))) (od_e (ed_ix ix_seq d_ix (od_p (pv 1)) (od_e (ed_const pe_int (fun _ => .int _))) (fun _ _ => rfl))))) (od_e (ed_bin op_mulB d_mulI (od_e (ed_ix ix_seq d_ix (od_p (pv 0)) (od_e (ed_const pe_int (fun _ => .int _))) (fun _ _ => rfl))) (od_e (ed_ix ix_seq d_ix (od_p (pv 1)) (od_e (ed_const pe_int (fun _ => .int _))) (fun _ _ => rfl))))))))
theorem g_reduced (T : Facts κ mg) : Gbl κ pr w mg base "reduced" ["net"] 3 f_reduced := by
  obtain ⟨fa, fd, a1, a2, a3⟩ := T.d_reduced
  refine ⟨fa, fd, a1, a2.kp, a3, fn_ok (N := N_reduced) (m := m_reduced) a2 sc_reduced fun cdv A outer s H E hr => ?_⟩
  have nd := sc_reduced.nd
  have hu := hr.units
  exact (sd_cons (sd_unp (ed_call rfl (g_form_of T) (hr.mono (by decide)) (by rfl) (os_cons (od_p (pv 0)) os_nil) rfl) (gd_tup rfl rfl (gds_cons (gd_name (pg_name nd rfl (by first | exact Or.inl rfl | exact Or.inr rfl))) (gds_cons (gd_name (pg_name nd rfl (by first | exact Or.inl rfl | exact Or.inr rfl))) gds_nil)))) (sd_one (sd_while PassesOwn.never (td_val (ed_const pe_bl (fun _ => .bl _))) (sd_cons (sd_if (td_cmp op_lt d_ltI (od_e (ed_call rfl (g_inner T) (hr.mono (by decide)) (by rfl) (os_cons (od_p (pv 2)) (os_cons (od_p (pv 2)) os_nil)) rfl)) (od_e (ed_call rfl (g_inner T) (hr.mono (by decide)) (by rfl) (os_cons (od_p (pv 1)) (os_cons (od_p (pv 1)) os_nil)) rfl)) (by rfl)) (sd_one (sd_par rfl nd rfl rfl (by decide) rfl rfl (os_cons (od_e (ed_var (pv 2))) (os_cons (od_e (ed_var (pv 1))) os_nil)) (by rfl))) sd_nil) (sd_cons (sd_set (ps_set (i := 3) nd rfl (by first | exact Or.inl rfl | exact Or.inr rfl) (ed_call rfl (g_inner T) (hr.mono (by decide)) (by rfl) (os_cons (od_p (pv 1)) (os_cons (od_p (pv 1)) os_nil)) rfl) (by rfl))) (sd_cons (sd_set (ps_set (i := 4) nd rfl (by first | exact Or.inl rfl | exact Or.inr rfl) (ed_bin op_divB d_div (od_e (ed_bin op_addAll d_add (od_e (ed_bin op_mulB d_mulI (od_e (ed_const pe_int (fun _ => .int _))) (od_e (ed_call rfl (g_inner T) (hr.mono (by decide)) (by rfl) (os_cons (od_p (pv 1)) (os_cons (od_p (pv 2)) os_nil)) rfl)))) (od_p (pv 3)))) (od_e (ed_bin op_mulB d_mulI (od_e (ed_const pe_int (fun _ => .int _))) (od_p (pv 3))))) (by rfl))) (sd_cons (sd_if (td_cmp (op_eqD hu) d_eq (od_p (pv 4)) (od_e (ed_const pe_int (fun _ => .int _))) (by rfl)) (sd_one (sd_ret (ed_tup (os_cons (od_e (ed_var (pv 1))) (os_cons (od_e (ed_var (pv 2))) os_nil))))) sd_nil) (sd_one (sd_set (ps_set (i := 2) nd rfl (by first | exact Or.inl rfl | exact Or.inr rfl) (ed_tup (os_cons (od_e (ed_bin op_subC d_sub (od_e (ed_ix ix_seq d_ix (od_p (pv 2)) (od_e (ed_const pe_int (fun _ => .int _))) (fun _ _ => rfl))) (od_e (ed_bin op_mulB d_mulI (od_p (pv 4)) (od_e (ed_ix ix_seq d_ix (od_p (pv 1)) (od_e (ed_const pe_int (fun _ => .int _))) (fun _ _ => rfl))))))) (os_cons (od_e (ed_bin op_subC d_sub (od_e (ed_ix ix_seq d_ix (od_p (pv 2)) (od_e (ed_const pe_int (fun _ => .int _))) (fun _ _ => rfl))) (od_e (ed_bin op_mulB d_mulI (od_p (pv 4)) (od_e (ed_ix ix_seq d_ix (od_p (pv 1)) (od_e (ed_const pe_int (fun _ => .int _))) (fun _ _ => rfl))))))) os_nil))) (by rfl)))))))))))
theorem g_law_least (T : Facts κ mg) : Gbl κ pr w mg base "_law_least" ["net"] 4 f_law_least := by
  obtain ⟨fa, fd, a1, a2, a3⟩ := T.d_law_least
  refine ⟨fa, fd, a1, a2.kp, a3, fn_ok (N := N_law_least) (m := m_law_least) a2 sc_law_least fun cdv A outer s H E hr => ?_⟩
  have nd := sc_law_least.nd
  have hu := hr.units
  exact (sd_cons (sd_set (ps_set (i := 1) nd rfl (by first | exact Or.inl rfl | exact Or.inr rfl) (ed_ix ix_seq d_ix (od_e (ed_call rfl (g_reduced T) (hr.mono (by decide)) (by rfl) (os_cons (od_p (pv 0)) os_nil) rfl)) (od_e (ed_const pe_int (fun _ => .int _))) (fun _ _ => rfl)) (by rfl))) (sd_one (sd_ret (ed_bin op_addAll d_add (od_e (ed_bin op_mulB d_mulI (od_e (ed_ix ix_seq d_ix (od_p (pv 1)) (od_e (ed_const pe_int (fun _ => .int _))) (fun _ _ => rfl))) (od_e (ed_ix ix_seq d_ix (od_p (pv 1)) (od_e (ed_const pe_int (fun _ => .int _))) (fun _ _ => rfl))))) (od_e (ed_bin op_mulB d_mulI (od_e (ed_ix ix_seq d_ix (od_p (pv 1)) (od_e (ed_const pe_int (fun _ => .int _))) (fun _ _ => rfl))) (od_e (ed_ix ix_seq d_ix (od_p (pv 1)) (od_e (ed_const pe_int (fun _ => .int _))) (fun _ _ => rfl)))))))))
theorem g_cross (T : Facts κ mg) : Gbl κ pr w mg base "cross" ["one", "other"] 1 f_cross := by
  obtain ⟨fa, fd, a1, a2, a3⟩ := T.d_cross
  refine ⟨fa, fd, a1, a2.kp, a3, fn_ok (N := N_cross) (m := m_cross) a2 sc_cross fun cdv A outer s H E hr => ?_⟩
  have nd := sc_cross.nd
  have hu := hr.units
  exact (sd_one (sd_ret (ed_bin op_subC d_sub (od_e (ed_bin op_mulB d_mulI (od_e (ed_ix ix_seq d_ix (od_p (pv 0)) (od_e (ed_const pe_int (fun _ => .int _))) (fun _ _ => rfl))) (od_e (ed_ix ix_seq d_ix (od_p (pv 1)) (od_e (ed_const pe_int (fun _ => .int _))) (fun _ _ => rfl))))) (od_e (ed_bin op_mulB d_mulI (od_e (ed_ix ix_seq d_ix (od_p (pv 0)) (od_e (ed_const pe_int (fun _ => .int _))) (fun _ _ => rfl))) (od_e (ed_ix ix_seq d_ix (od_p (pv 1)) (od_e (ed_const pe_int (fun _ => .int _))) (fun _ _ => rfl))))))))
theorem g_area (T : Facts κ mg) : Gbl κ pr w mg base "area" ["net"] 2 f_area := by
  obtain ⟨fa, fd, a1, a2, a3⟩ := T.d_area
  refine ⟨fa, fd, a1, a2.kp, a3, fn_ok (N := N_area) (m := m_area) a2 sc_area fun cdv A outer s H E hr => ?_⟩
  have nd := sc_area.nd
  have hu := hr.units
  exact (sd_one (sd_ret (ed_blt call_absB n_abs (by rfl) T.z_abs bt_abs (os_cons (od_e (ed_call rfl (g_cross T) (hr.mono (by decide)) (by rfl) (os_cons (od_e (ed_ix ix_seq d_ix (od_p (pv 0)) (od_e (ed_const pe_int (fun _ => .int _))) (fun _ _ => rfl))) (os_cons (od_e (ed_ix ix_seq d_ix (od_p (pv 0)) (od_e (ed_const pe_int (fun _ => .int _))) (fun _ _ => rfl))) os_nil)) rfl)) os_nil))))
theorem ok_law {fa : Addr} {fd : FuncData} (T : Facts κ mg) (a2 : L2.Fun κ.K "law" "law" s_law fa fd) : FnOk pr w κ.K mg base CX0 6 fa fd ["script"] (spD κ f_law 1) := by
  refine fn_ok (N := N_law) (m := m_law) a2 sc_law fun cdv A outer s H E hr => ?_
  have nd := sc_law.nd
  have hu := hr.units
  exact (sd_cons (sd_own (ps_set (i := 1) nd rfl (by first | exact Or.inl rfl | exact Or.inr rfl) (eo_call rfl (g_law_pool T) (hr.mono (by decide)) (by rfl) (os_cons (od_p (pv 0)) os_nil) rfl) (by rfl))) (sd_cons (sd_for PassesOwn.never rfl (it_range1 (by rfl) T.z_range (os_cons (od_e (ed_const pe_int (fun _ => .int _))) os_nil)) (gd_name (pg_name nd rfl (by first | exact Or.inl rfl | exact Or.inr rfl))) (sd_cons (sd_expr (ed_call rfl (g_law_next T) (hr.mono (by decide)) (by rfl) (os_cons (od_p (pv 1)) os_nil) rfl)) (sd_cons (sd_set (ps_set (i := 3) nd rfl (by first | exact Or.inl rfl | exact Or.inr rfl) (ed_call rfl (g_law_net T) (hr.mono (by decide)) (by rfl) (os_cons (od_p (pv 1)) (os_cons (od_e (ed_call rfl (g_law_pick T) (hr.mono (by decide)) (by rfl) (os_cons (od_p (pv 1)) (os_cons (od_e (ed_of (eo_lst (os_cons (od_e (ed_const pe_int (fun _ => .int _))) (os_cons (od_e (ed_const pe_int (fun _ => .int _))) os_nil))))) os_nil)) rfl)) os_nil)) rfl) (by rfl))) (sd_cons (sd_unp (ed_ix ix_seq d_ix (od_p (pv 3)) (od_e (ed_const pe_int (fun _ => .int _))) (fun _ _ => rfl)) (gd_tup rfl rfl (gds_cons (gd_name (pg_name nd rfl (by first | exact Or.inl rfl | exact Or.inr rfl))) (gds_cons (gd_name (pg_name nd rfl (by first | exact Or.inl rfl | exact Or.inr rfl))) gds_nil)))) (sd_cons (sd_set (ps_set (i := 6) nd rfl (by first | exact Or.inl rfl | exact Or.inr rfl) (ed_call rfl (g_law_draw T) (hr.mono (by decide)) (by rfl) (os_cons (od_p (pv 1)) (os_cons (od_e (ed_const pe_int (fun _ => .int _))) os_nil)) rfl) (by rfl))) (sd_cons (sd_if (PW.pt (tw_and (td_cmp (op_eqD hu) d_eq (od_p (pv 6)) (od_e (ed_const pe_int (fun _ => .int _))) (by rfl)) (tw_and1 (td_cmp (op_neD hu) d_ne (od_e (ed_tup (os_cons (od_e (ed_var (pv 4))) (os_cons (od_e (ed_var (pv 5))) os_nil)))) (od_e (ed_tup (os_cons (od_e (ed_const pe_int (fun _ => .int _))) (os_cons (od_e (ed_const pe_int (fun _ => .int _))) os_nil)))) (by rfl))))) (sd_one (sd_set (ps_set (i := 3) nd rfl (by first | exact Or.inl rfl | exact Or.inr rfl) (ed_tup (os_cons (od_e (ed_tup (os_cons (od_e (ed_var (pv 4))) (os_cons (od_e (ed_var (pv 5))) os_nil)))) (os_cons (od_e (ed_tup (os_cons (od_e (ed_un un_neg d_neg (od_p (pv 5)))) (os_cons (od_e (ed_var (pv 4))) os_nil)))) os_nil))) (by rfl)))) (sd_one (sd_if (PW.pt (tw_and (td_cmp (op_eqD hu) d_eq (od_p (pv 6)) (od_e (ed_const pe_int (fun _ => .int _))) (by rfl)) (tw_and1 (td_cmp (op_neD hu) d_ne (od_e (ed_bin op_mulB d_mulI (od_p (pv 4)) (od_p (pv 4)))) (od_e (ed_bin op_mulB d_mulI (od_p (pv 5)) (od_p (pv 5)))) (by rfl))))) (sd_one (sd_set (ps_set (i := 3) nd rfl (by first | exact Or.inl rfl | exact Or.inr rfl) (ed_tup (os_cons (od_e (ed_tup (os_cons (od_e (ed_var (pv 4))) (os_cons (od_e (ed_var (pv 5))) os_nil)))) (os_cons (od_e (ed_tup (os_cons (od_e (ed_var (pv 5))) (os_cons (od_e (ed_var (pv 4))) os_nil)))) os_nil))) (by rfl)))) sd_nil))) (sd_cons (sd_set (ps_set (i := 7) nd rfl (by first | exact Or.inl rfl | exact Or.inr rfl) (ed_tup (os_cons (od_e (ed_tup (os_cons (od_e (ed_un un_neg d_neg (od_e (ed_ix ix_seq d_ix (od_e (ed_ix ix_seq d_ix (od_p (pv 3)) (od_e (ed_const pe_int (fun _ => .int _))) (fun _ _ => rfl))) (od_e (ed_const pe_int (fun _ => .int _))) (fun _ _ => rfl))))) (os_cons (od_e (ed_ix ix_seq d_ix (od_e (ed_ix ix_seq d_ix (od_p (pv 3)) (od_e (ed_const pe_int (fun _ => .int _))) (fun _ _ => rfl))) (od_e (ed_const pe_int (fun _ => .int _))) (fun _ _ => rfl))) os_nil)))) (os_cons (od_e (ed_tup (os_cons (od_e (ed_un un_neg d_neg (od_e (ed_ix ix_seq d_ix (od_e (ed_ix ix_seq d_ix (od_p (pv 3)) (od_e (ed_const pe_int (fun _ => .int _))) (fun _ _ => rfl))) (od_e (ed_const pe_int (fun _ => .int _))) (fun _ _ => rfl))))) (os_cons (od_e (ed_ix ix_seq d_ix (od_e (ed_ix ix_seq d_ix (od_p (pv 3)) (od_e (ed_const pe_int (fun _ => .int _))) (fun _ _ => rfl))) (od_e (ed_const pe_int (fun _ => .int _))) (fun _ _ => rfl))) os_nil)))) os_nil))) (by rfl))) (sd_cons (sd_set (ps_set (i := 8) nd rfl (by first | exact Or.inl rfl | exact Or.inr rfl) (ed_tup (os_cons (od_e (ed_tup (os_cons (od_e (ed_ix ix_seq d_ix (od_e (ed_ix ix_seq d_ix (od_p (pv 3)) (od_e (ed_const pe_int (fun _ => .int _))) (fun _ _ => rfl))) (od_e (ed_const pe_int (fun _ => .int _))) (fun _ _ => rfl))) (os_cons (od_e (ed_ix ix_seq d_ix (od_e (ed_ix ix_seq d_ix (od_p (pv 3)) (od_e (ed_const pe_int (fun _ => .int _))) (fun _ _ => rfl))) (od_e (ed_const pe_int (fun _ => .int _))) (fun _ _ => rfl))) os_nil)))) (os_cons (od_e (ed_tup (os_cons (od_e (ed_ix ix_seq d_ix (od_e (ed_ix ix_seq d_ix (od_p (pv 3)) (od_e (ed_const pe_int (fun _ => .int _))) (fun _ _ => rfl))) (od_e (ed_const pe_int (fun _ => .int _))) (fun _ _ => rfl))) (os_cons (od_e (ed_ix ix_seq d_ix (od_e (ed_ix ix_seq d_ix (od_p (pv 3)) (od_e (ed_const pe_int (fun _ => .int _))) (fun _ _ => rfl))) (od_e (ed_const pe_int (fun _ => .int _))) (fun _ _ => rfl))) os_nil)))) os_nil))) (by rfl))) (sd_cons (sd_set (ps_set (i := 9) nd rfl (by first | exact Or.inl rfl | exact Or.inr rfl) (ed_tup (os_cons (od_e (ed_tup (os_cons (od_e (ed_un un_neg d_neg (od_e (ed_ix ix_seq d_ix (od_e (ed_ix ix_seq d_ix (od_p (pv 3)) (od_e (ed_const pe_int (fun _ => .int _))) (fun _ _ => rfl))) (od_e (ed_const pe_int (fun _ => .int _))) (fun _ _ => rfl))))) (os_cons (od_e (ed_ix ix_seq d_ix (od_e (ed_ix ix_seq d_ix (od_p (pv 3)) (od_e (ed_const pe_int (fun _ => .int _))) (fun _ _ => rfl))) (od_e (ed_const pe_int (fun _ => .int _))) (fun _ _ => rfl))) os_nil)))) (os_cons (od_e (ed_tup (os_cons (od_e (ed_un un_neg d_neg (od_e (ed_ix ix_seq d_ix (od_e (ed_ix ix_seq d_ix (od_p (pv 3)) (od_e (ed_const pe_int (fun _ => .int _))) (fun _ _ => rfl))) (od_e (ed_const pe_int (fun _ => .int _))) (fun _ _ => rfl))))) (os_cons (od_e (ed_ix ix_seq d_ix (od_e (ed_ix ix_seq d_ix (od_p (pv 3)) (od_e (ed_const pe_int (fun _ => .int _))) (fun _ _ => rfl))) (od_e (ed_const pe_int (fun _ => .int _))) (fun _ _ => rfl))) os_nil)))) os_nil))) (by rfl))) (sd_cons (sd_set (ps_set (i := 10) nd rfl (by first | exact Or.inl rfl | exact Or.inr rfl) (ed_call rfl (g_law_same_dots T) (hr.mono (by decide)) (by rfl) (os_cons (od_p (pv 3)) (os_cons (od_p (pv 7)) os_nil)) rfl) (by rfl))) (sd_cons (sd_if (td_not (td_val (ed_call rfl (g_law_same T 4) (hr.mono (by decide)) (by rfl) (os_cons (od_e (ed_call rfl (g_is_square T) (hr.mono (by decide)) (by rfl) (os_cons (od_p (pv 3)) os_nil) rfl)) (os_cons (od_p (pv 10)) os_nil)) rfl))) (sd_one (sd_ret (ed_const pe_bl (fun _ => .bl _)))) sd_nil) (sd_cons (sd_set (ps_set (i := 11) nd rfl (by first | exact Or.inl rfl | exact Or.inr rfl) (ed_bin op_addAll d_add (od_e (ed_rep (eo_lst (os_cons (od_e (ed_const pe_str (fun _ => .str _))) os_nil)) (ed_ty call_intB n_int (by rfl) T.z_int bt_int (os_cons (od_e (ed_call rfl (g_law_same_dots T) (hr.mono (by decide)) (by rfl) (os_cons (od_p (pv 3)) (os_cons (od_p (pv 8)) os_nil)) rfl)) os_nil)))) (od_e (ed_rep (eo_lst (os_cons (od_e (ed_const pe_str (fun _ => .str _))) os_nil)) (ed_ty call_intB n_int (by rfl) T.z_int bt_int (os_cons (od_e (ed_call rfl (g_law_same_dots T) (hr.mono (by decide)) (by rfl) (os_cons (od_p (pv 3)) (os_cons (od_p (pv 9)) os_nil)) rfl)) os_nil))))) (by rfl))) (sd_cons (sd_if (td_not (td_val (ed_call rfl (g_law_same T 4) (hr.mono (by decide)) (by rfl) (os_cons (od_e (ed_call rfl (g_mirrors T) (hr.mono (by decide)) (by rfl) (os_cons (od_p (pv 3)) os_nil) rfl)) (os_cons (od_p (pv 11)) os_nil)) rfl))) (sd_one (sd_ret (ed_const pe_bl (fun _ => .bl _)))) sd_nil) (sd_cons (sd_for PassesOwn.never rfl (it_seq rfl (ed_of (eo_lst (os_cons (od_e (ed_var (pv 7))) (os_cons (od_e (ed_var (pv 8))) (os_cons (od_e (ed_var (pv 9))) os_nil)))))) (gd_name (pg_name nd rfl (by first | exact Or.inl rfl | exact Or.inr rfl))) (sd_one (sd_if (PW.pt (tw_or (td_cmp (op_neD hu) d_ne (od_e (ed_call rfl (g_area T) (hr.mono (by decide)) (by rfl) (os_cons (od_p (pv 12)) os_nil) rfl)) (od_e (ed_call rfl (g_area T) (hr.mono (by decide)) (by rfl) (os_cons (od_p (pv 3)) os_nil) rfl)) (by rfl)) (tw_or1 (td_cmp (op_neD hu) d_ne (od_e (ed_call rfl (g_law_least T) (hr.mono (by decide)) (by rfl) (os_cons (od_p (pv 12)) os_nil) rfl)) (od_e (ed_call rfl (g_law_least T) (hr.mono (by decide)) (by rfl) (os_cons (od_p (pv 3)) os_nil) rfl)) (by rfl))))) (sd_one (sd_ret (ed_const pe_bl (fun _ => .bl _)))) sd_nil))) (sd_cons (sd_if (PW.pt (tw_and (td_tru rfl (od_p (pv 10))) (tw_and1 (td_cmp (op_neD hu) d_ne (od_e (ed_call rfl (g_law_least T) (hr.mono (by decide)) (by rfl) (os_cons (od_p (pv 3)) os_nil) rfl)) (od_e (ed_call rfl (g_area T) (hr.mono (by decide)) (by rfl) (os_cons (od_p (pv 3)) os_nil) rfl)) (by rfl))))) (sd_one (sd_ret (ed_const pe_bl (fun _ => .bl _)))) sd_nil) (sd_one (sd_if (PW.pt (tw_and (td_tru rfl (od_p (pv 10))) (tw_and1 (td_cmp (op_eqD hu) d_eq (od_e (ed_blt call_lenAll n_len (by rfl) T.z_len bt_len (os_cons (od_p (pv 11)) os_nil))) (od_e (ed_const pe_int (fun _ => .int _))) (by rfl))))) (sd_one (sd_ret (ed_const pe_bl (fun _ => .bl _)))) sd_nil))))))))))))))))) (sd_cons (sd_set (ps_set (i := 13) nd rfl (by first | exact Or.inl rfl | exact Or.inr rfl) (ed_bin op_addAll d_add (od_e (ed_const pe_int (fun _ => .int _))) (od_e (ed_call rfl (g_law_draw T) (hr.mono (by decide)) (by rfl) (os_cons (od_p (pv 1)) (os_cons (od_e (ed_const pe_int (fun _ => .int _))) os_nil)) rfl))) (by rfl))) (sd_cons (sd_set (ps_set (i := 14) nd rfl (by first | exact Or.inl rfl | exact Or.inr rfl) (ed_call rfl (g_nets_of T) (hr.mono (by decide)) (by rfl) (os_cons (od_p (pv 13)) os_nil) rfl) (by rfl))) (sd_cons (sd_set (asg_data (comp_asg (ps_setLc (i := 15) (own := [(("one" : Str), 18)]) rfl nd rfl rfl (sw_true rfl rfl rfl (by decide +kernel)) (it_seq rfl (ed_var (pv 14))) (blkOk_by (N := N_law) (sc := defScope s_law) (by decide +kernel)) (fun _ _ _ _ _ => (gd_name (pg_name nd rfl (by first | exact Or.inl rfl | exact Or.inr rfl)))) (fun _ _ _ _ _ => (tt_one (td_val (ed_call rfl (g_is_square T) (hr.mono (by decide)) (by rfl) (os_cons (od_p (pv 18)) os_nil) rfl)))) (fun _ _ _ _ _ => (ed_var (pv 18))))))) (sd_cons (sd_set (asg_data (ps_set (i := 16) nd rfl (by first | exact Or.inl rfl | exact Or.inr rfl) (eo_comp (own := [(("one" : Str), 18)]) (pe_lc (own := [(("one" : Str), 18)]) rfl nd (it_seq rfl (ed_var (pv 14))) (blkOk_by (N := N_law) (sc := defScope s_law) (by decide +kernel)) (fun _ _ _ _ _ => (gd_name (pg_name nd rfl (by first | exact Or.inl rfl | exact Or.inr rfl)))) (fun _ _ _ _ _ => tt_nil) (fun _ _ _ _ _ => (ed_call rfl (g_form_of T) (hr.mono (by decide)) (by rfl) (os_cons (od_e (ed_tup (os_cons (od_e (ed_tup (os_cons (od_e (ed_un un_neg d_neg (od_e (ed_ix ix_seq d_ix (od_e (ed_ix ix_seq d_ix (od_p (pv 18)) (od_e (ed_const pe_int (fun _ => .int _))) (fun _ _ => rfl))) (od_e (ed_const pe_int (fun _ => .int _))) (fun _ _ => rfl))))) (os_cons (od_e (ed_ix ix_seq d_ix (od_e (ed_ix ix_seq d_ix (od_p (pv 18)) (od_e (ed_const pe_int (fun _ => .int _))) (fun _ _ => rfl))) (od_e (ed_const pe_int (fun _ => .int _))) (fun _ _ => rfl))) os_nil)))) (os_cons (od_e (ed_tup (os_cons (od_e (ed_un un_neg d_neg (od_e (ed_ix ix_seq d_ix (od_e (ed_ix ix_seq d_ix (od_p (pv 18)) (od_e (ed_const pe_int (fun _ => .int _))) (fun _ _ => rfl))) (od_e (ed_const pe_int (fun _ => .int _))) (fun _ _ => rfl))))) (os_cons (od_e (ed_ix ix_seq d_ix (od_e (ed_ix ix_seq d_ix (od_p (pv 18)) (od_e (ed_const pe_int (fun _ => .int _))) (fun _ _ => rfl))) (od_e (ed_const pe_int (fun _ => .int _))) (fun _ _ => rfl))) os_nil)))) os_nil)))) os_nil) rfl)))) (by rfl)))) (sd_cons (sd_if (PW.pt (tw_or (td_cmp (op_neD hu) d_ne (od_e (ed_of (eo_blt (cr_sortedD hu) o_sorted (by rfl) T.z_sorted bt_sorted (os_cons (od_p (pv 16)) os_nil)))) (od_p (pv 14)) (by rfl)) (tw_or1 (td_cmp (op_neD hu) d_ne (od_e (ed_blt call_lenAll n_len (by rfl) T.z_len bt_len (os_cons (od_e (ed_of (eo_comp (own := [(("k" : Str), 19)]) (pe_lc (own := [(("k" : Str), 19)]) rfl nd (it_range1 (by rfl) T.z_range (os_cons (od_e (ed_blt call_lenAll n_len (by rfl) T.z_len bt_len (os_cons (od_p (pv 14)) os_nil))) os_nil)) (blkOk_by (N := N_law) (sc := defScope s_law) (by decide +kernel)) (fun _ _ _ _ _ => (gd_name (pg_name nd rfl (by first | exact Or.inl rfl | exact Or.inr rfl)))) (fun _ _ _ _ _ => (tt_one (td_cmp (op_eqD hu) d_eq (od_e (ed_ix ix_seq d_ix (od_p (pv 16)) (od_p (pv 19)) (fun _ _ => rfl))) (od_e (ed_ix ix_seq d_ix (od_p (pv 14)) (od_p (pv 19)) (fun _ _ => rfl))) (by rfl)))) (fun _ _ _ _ _ => (ed_var (pv 19))))))) os_nil))) (od_e (ed_blt call_lenAll n_len (by rfl) T.z_len bt_len (os_cons (od_p (pv 15)) os_nil))) (by rfl))))) (sd_one (sd_ret (ed_const pe_bl (fun _ => .bl _)))) sd_nil) (sd_cons (sd_set (ps_set (i := 17) nd rfl (by first | exact Or.inl rfl | exact Or.inr rfl) (ed_const pe_int (fun _ => .int _)) (by rfl))) (sd_cons (sd_for PassesOwn.never rfl (it_range2 (by rfl) T.z_range (os_cons (od_e (ed_un un_neg d_neg (od_p (pv 13)))) (os_cons (od_e (ed_bin op_addAll d_add (od_p (pv 13)) (od_e (ed_const pe_int (fun _ => .int _))))) os_nil))) (gd_name (pg_name nd rfl (by first | exact Or.inl rfl | exact Or.inr rfl))) (sd_one (sd_for PassesOwn.never rfl (it_range2 (by rfl) T.z_range (os_cons (od_e (ed_un un_neg d_neg (od_p (pv 13)))) (os_cons (od_e (ed_bin op_addAll d_add (od_p (pv 13)) (od_e (ed_const pe_int (fun _ => .int _))))) os_nil))) (gd_name (pg_name nd rfl (by first | exact Or.inl rfl | exact Or.inr rfl))) (sd_one (sd_set (ps_set (i := 17) nd rfl (by first | exact Or.inl rfl | exact Or.inr rfl) (ed_bin op_addAll d_add (od_p (pv 17)) (od_e (ed_ty call_intB n_int (by rfl) T.z_int bt_int (os_cons (od_e (ed_cmp (op_eqD hu) d_eq (od_e (ed_bin op_addAll d_add (od_e (ed_bin op_mulB d_mulI (od_p (pv 4)) (od_p (pv 4)))) (od_e (ed_bin op_mulB d_mulI (od_p (pv 5)) (od_p (pv 5)))))) (od_p (pv 13)) (by rfl))) os_nil)))) (by rfl))))))) (sd_one (sd_ret (ed_cmp (op_eqD hu) d_eq (od_e (ed_bin op_mulB d_mulI (od_e (ed_const pe_int (fun _ => .int _))) (od_e (ed_blt call_lenAll n_len (by rfl) T.z_len bt_len (os_cons (od_p (pv 15)) os_nil))))) (od_p (pv 17)) (by rfl)))))))))))))
end
theorem all_mk {pr : Program} {w : World} {K : PySem.W.Frag} {h : Heap} {mg : Str → Option Value} {fa f1 f2 f3 f4 f5 f6 f7 f8 f9 f10 f11 f12 f13 f14 f15 f16 f17 f18 f19 f20 f21 f22 f23 f24 : Addr} (X : K.In h) (G : h.Ns mainGlobals mg) (hfa : mg "law" = some (.ref fa))
    {od1 an1 od2 an2 od3 an3 od4 an4 od5 an5 od6 an6 od7 an7 od8 an8 od9 an9 od10 an10 od11 an11 od12 an12 od13 an13 od14 an14 od15 an15 od16 an16 od17 an17 od18 an18 od19 an19 od20 an20 od21 an21 od22 an22 od23 an23 od24 an24 : Option Addr} {sl1 sl2 sl3 sl4 sl5 sl6 sl7 sl8 sl9 sl10 sl11 sl12 sl13 sl14 sl15 sl16 sl17 sl18 sl19 sl20 sl21 sl22 sl23 sl24 : Array (Option Value)} {oc1 kV1 dc1 pm1 cd1 ct1 oc2 kV2 dc2 pm2 cd2 ct2 oc3 kV3 dc3 pm3 cd3 ct3 oc4 kV4 dc4 pm4 cd4 ct4 oc5 kV5 dc5 pm5 cd5 ct5 oc6 kV6 dc6 pm6 cd6 ct6 oc7 kV7 dc7 pm7 cd7 ct7 oc8 kV8 dc8 pm8 cd8 ct8 oc9 kV9 dc9 pm9 cd9 ct9 oc10 kV10 dc10 pm10 cd10 ct10 oc11 kV11 dc11 pm11 cd11 ct11 oc12 kV12 dc12 pm12 cd12 ct12 oc13 kV13 dc13 pm13 cd13 ct13 oc14 kV14 dc14 pm14 cd14 ct14 oc15 kV15 dc15 pm15 cd15 ct15 oc16 kV16 dc16 pm16 cd16 ct16 oc17 kV17 dc17 pm17 cd17 ct17 oc18 kV18 dc18 pm18 cd18 ct18 oc19 kV19 dc19 pm19 cd19 ct19 oc20 kV20 dc20 pm20 cd20 ct20 oc21 kV21 dc21 pm21 cd21 ct21 oc22 kV22 dc22 pm22 cd22 ct22 oc23 kV23 dc23 pm23 cd23 ct23 oc24 kV24 dc24 pm24 cd24 ct24 : Value}
    (a1 : PySem.W.nsIn K mainGlobals "_law_mixed" = some (some (.ref f1))) (l1 : K.lookup f1 = some ⟨oc1, od1, .func (PySem.W.fnOf "_law_mixed" "_law_mixed" (defArgs s_law_mixed) (defBody s_law_mixed) (defScope s_law_mixed) .none kV1 dc1 pm1 an1 cd1 ct1), sl1⟩) (c1 : PySem.W.codeIn K cd1 "_law_mixed" = true) (k1 : PySem.W.keepIn K (.ref f1) = true)
    (a2 : PySem.W.nsIn K mainGlobals "_law_rest" = some (some (.ref f2))) (l2 : K.lookup f2 = some ⟨oc2, od2, .func (PySem.W.fnOf "_law_rest" "_law_rest" (defArgs s_law_rest) (defBody s_law_rest) (defScope s_law_rest) .none kV2 dc2 pm2 an2 cd2 ct2), sl2⟩) (c2 : PySem.W.codeIn K cd2 "_law_rest" = true) (k2 : PySem.W.keepIn K (.ref f2) = true)
    (a3 : PySem.W.nsIn K mainGlobals "_law_pool" = some (some (.ref f3))) (l3 : K.lookup f3 = some ⟨oc3, od3, .func (PySem.W.fnOf "_law_pool" "_law_pool" (defArgs s_law_pool) (defBody s_law_pool) (defScope s_law_pool) .none kV3 dc3 pm3 an3 cd3 ct3), sl3⟩) (c3 : PySem.W.codeIn K cd3 "_law_pool" = true) (k3 : PySem.W.keepIn K (.ref f3) = true)
    (a4 : PySem.W.nsIn K mainGlobals "nets_of" = some (some (.ref f4))) (l4 : K.lookup f4 = some ⟨oc4, od4, .func (PySem.W.fnOf "nets_of" "nets_of" (defArgs s_nets_of) (defBody s_nets_of) (defScope s_nets_of) .none kV4 dc4 pm4 an4 cd4 ct4), sl4⟩) (c4 : PySem.W.codeIn K cd4 "nets_of" = true) (k4 : PySem.W.keepIn K (.ref f4) = true)
    (a5 : PySem.W.nsIn K mainGlobals "_law_next" = some (some (.ref f5))) (l5 : K.lookup f5 = some ⟨oc5, od5, .func (PySem.W.fnOf "_law_next" "_law_next" (defArgs s_law_next) (defBody s_law_next) (defScope s_law_next) .none kV5 dc5 pm5 an5 cd5 ct5), sl5⟩) (c5 : PySem.W.codeIn K cd5 "_law_next" = true) (k5 : PySem.W.keepIn K (.ref f5) = true)
    (a6 : PySem.W.nsIn K mainGlobals "_law_draw" = some (some (.ref f6))) (l6 : K.lookup f6 = some ⟨oc6, od6, .func (PySem.W.fnOf "_law_draw" "_law_draw" (defArgs s_law_draw) (defBody s_law_draw) (defScope s_law_draw) .none kV6 dc6 pm6 an6 cd6 ct6), sl6⟩) (c6 : PySem.W.codeIn K cd6 "_law_draw" = true) (k6 : PySem.W.keepIn K (.ref f6) = true)
    (a7 : PySem.W.nsIn K mainGlobals "_law_vector" = some (some (.ref f7))) (l7 : K.lookup f7 = some ⟨oc7, od7, .func (PySem.W.fnOf "_law_vector" "_law_vector" (defArgs s_law_vector) (defBody s_law_vector) (defScope s_law_vector) .none kV7 dc7 pm7 an7 cd7 ct7), sl7⟩) (c7 : PySem.W.codeIn K cd7 "_law_vector" = true) (k7 : PySem.W.keepIn K (.ref f7) = true)
    (a8 : PySem.W.nsIn K mainGlobals "_law_net" = some (some (.ref f8))) (l8 : K.lookup f8 = some ⟨oc8, od8, .func (PySem.W.fnOf "_law_net" "_law_net" (defArgs s_law_net) (defBody s_law_net) (defScope s_law_net) .none kV8 dc8 pm8 an8 cd8 ct8), sl8⟩) (c8 : PySem.W.codeIn K cd8 "_law_net" = true) (k8 : PySem.W.keepIn K (.ref f8) = true)
    (a9 : PySem.W.nsIn K mainGlobals "_law_area" = some (some (.ref f9))) (l9 : K.lookup f9 = some ⟨oc9, od9, .func (PySem.W.fnOf "_law_area" "_law_area" (defArgs s_law_area) (defBody s_law_area) (defScope s_law_area) .none kV9 dc9 pm9 an9 cd9 ct9), sl9⟩) (c9 : PySem.W.codeIn K cd9 "_law_area" = true) (k9 : PySem.W.keepIn K (.ref f9) = true)
    (a10 : PySem.W.nsIn K mainGlobals "_law_is_dot" = some (some (.ref f10))) (l10 : K.lookup f10 = some ⟨oc10, od10, .func (PySem.W.fnOf "_law_is_dot" "_law_is_dot" (defArgs s_law_is_dot) (defBody s_law_is_dot) (defScope s_law_is_dot) .none kV10 dc10 pm10 an10 cd10 ct10), sl10⟩) (c10 : PySem.W.codeIn K cd10 "_law_is_dot" = true) (k10 : PySem.W.keepIn K (.ref f10) = true)
    (a11 : PySem.W.nsIn K mainGlobals "_law_same_dots" = some (some (.ref f11))) (l11 : K.lookup f11 = some ⟨oc11, od11, .func (PySem.W.fnOf "_law_same_dots" "_law_same_dots" (defArgs s_law_same_dots) (defBody s_law_same_dots) (defScope s_law_same_dots) .none kV11 dc11 pm11 an11 cd11 ct11), sl11⟩) (c11 : PySem.W.codeIn K cd11 "_law_same_dots" = true) (k11 : PySem.W.keepIn K (.ref f11) = true)
    (a12 : PySem.W.nsIn K mainGlobals "form_of_all" = some (some (.ref f12))) (l12 : K.lookup f12 = some ⟨oc12, od12, .func (PySem.W.fnOf "form_of_all" "form_of_all" (defArgs s_form_of_all) (defBody s_form_of_all) (defScope s_form_of_all) .none kV12 dc12 pm12 an12 cd12 ct12), sl12⟩) (c12 : PySem.W.codeIn K cd12 "form_of_all" = true) (k12 : PySem.W.keepIn K (.ref f12) = true)
    (a13 : PySem.W.nsIn K mainGlobals "form_of" = some (some (.ref f13))) (l13 : K.lookup f13 = some ⟨oc13, od13, .func (PySem.W.fnOf "form_of" "form_of" (defArgs s_form_of) (defBody s_form_of) (defScope s_form_of) .none kV13 dc13 pm13 an13 cd13 ct13), sl13⟩) (c13 : PySem.W.codeIn K cd13 "form_of" = true) (k13 : PySem.W.keepIn K (.ref f13) = true)
    (a14 : PySem.W.nsIn K mainGlobals "_law_pick" = some (some (.ref f14))) (l14 : K.lookup f14 = some ⟨oc14, od14, .func (PySem.W.fnOf "_law_pick" "_law_pick" (defArgs s_law_pick) (defBody s_law_pick) (defScope s_law_pick) .none kV14 dc14 pm14 an14 cd14 ct14), sl14⟩) (c14 : PySem.W.codeIn K cd14 "_law_pick" = true) (k14 : PySem.W.keepIn K (.ref f14) = true)
    (a15 : PySem.W.nsIn K mainGlobals "_law_same" = some (some (.ref f15))) (l15 : K.lookup f15 = some ⟨oc15, od15, .func (PySem.W.fnOf "_law_same" "_law_same" (defArgs s_law_same) (defBody s_law_same) (defScope s_law_same) .none kV15 dc15 pm15 an15 cd15 ct15), sl15⟩) (c15 : PySem.W.codeIn K cd15 "_law_same" = true) (k15 : PySem.W.keepIn K (.ref f15) = true)
    (a16 : PySem.W.nsIn K mainGlobals "is_dot" = some (some (.ref f16))) (l16 : K.lookup f16 = some ⟨oc16, od16, .func (PySem.W.fnOf "is_dot" "is_dot" (defArgs s_is_dot) (defBody s_is_dot) (defScope s_is_dot) .none kV16 dc16 pm16 an16 cd16 ct16), sl16⟩) (c16 : PySem.W.codeIn K cd16 "is_dot" = true) (k16 : PySem.W.keepIn K (.ref f16) = true)
    (a17 : PySem.W.nsIn K mainGlobals "is_square" = some (some (.ref f17))) (l17 : K.lookup f17 = some ⟨oc17, od17, .func (PySem.W.fnOf "is_square" "is_square" (defArgs s_is_square) (defBody s_is_square) (defScope s_is_square) .none kV17 dc17 pm17 an17 cd17 ct17), sl17⟩) (c17 : PySem.W.codeIn K cd17 "is_square" = true) (k17 : PySem.W.keepIn K (.ref f17) = true)
    (a18 : PySem.W.nsIn K mainGlobals "mirrors" = some (some (.ref f18))) (l18 : K.lookup f18 = some ⟨oc18, od18, .func (PySem.W.fnOf "mirrors" "mirrors" (defArgs s_mirrors) (defBody s_mirrors) (defScope s_mirrors) .none kV18 dc18 pm18 an18 cd18 ct18), sl18⟩) (c18 : PySem.W.codeIn K cd18 "mirrors" = true) (k18 : PySem.W.keepIn K (.ref f18) = true)
    (a19 : PySem.W.nsIn K mainGlobals "inner" = some (some (.ref f19))) (l19 : K.lookup f19 = some ⟨oc19, od19, .func (PySem.W.fnOf "inner" "inner" (defArgs s_inner) (defBody s_inner) (defScope s_inner) .none kV19 dc19 pm19 an19 cd19 ct19), sl19⟩) (c19 : PySem.W.codeIn K cd19 "inner" = true) (k19 : PySem.W.keepIn K (.ref f19) = true)
    (a20 : PySem.W.nsIn K mainGlobals "reduced" = some (some (.ref f20))) (l20 : K.lookup f20 = some ⟨oc20, od20, .func (PySem.W.fnOf "reduced" "reduced" (defArgs s_reduced) (defBody s_reduced) (defScope s_reduced) .none kV20 dc20 pm20 an20 cd20 ct20), sl20⟩) (c20 : PySem.W.codeIn K cd20 "reduced" = true) (k20 : PySem.W.keepIn K (.ref f20) = true)
    (a21 : PySem.W.nsIn K mainGlobals "_law_least" = some (some (.ref f21))) (l21 : K.lookup f21 = some ⟨oc21, od21, .func (PySem.W.fnOf "_law_least" "_law_least" (defArgs s_law_least) (defBody s_law_least) (defScope s_law_least) .none kV21 dc21 pm21 an21 cd21 ct21), sl21⟩) (c21 : PySem.W.codeIn K cd21 "_law_least" = true) (k21 : PySem.W.keepIn K (.ref f21) = true)
    (a22 : PySem.W.nsIn K mainGlobals "cross" = some (some (.ref f22))) (l22 : K.lookup f22 = some ⟨oc22, od22, .func (PySem.W.fnOf "cross" "cross" (defArgs s_cross) (defBody s_cross) (defScope s_cross) .none kV22 dc22 pm22 an22 cd22 ct22), sl22⟩) (c22 : PySem.W.codeIn K cd22 "cross" = true) (k22 : PySem.W.keepIn K (.ref f22) = true)
    (a23 : PySem.W.nsIn K mainGlobals "area" = some (some (.ref f23))) (l23 : K.lookup f23 = some ⟨oc23, od23, .func (PySem.W.fnOf "area" "area" (defArgs s_area) (defBody s_area) (defScope s_area) .none kV23 dc23 pm23 an23 cd23 ct23), sl23⟩) (c23 : PySem.W.codeIn K cd23 "area" = true) (k23 : PySem.W.keepIn K (.ref f23) = true)
    (a24 : PySem.W.nsIn K mainGlobals "law" = some (some (.ref f24))) (l24 : K.lookup f24 = some ⟨oc24, od24, .func (PySem.W.fnOf "law" "law" (defArgs s_law) (defBody s_law) (defScope s_law) .none kV24 dc24 pm24 an24 cd24 ct24), sl24⟩) (c24 : PySem.W.codeIn K cd24 "law" = true) (k24 : PySem.W.keepIn K (.ref f24) = true)
    (z0 : PySem.W.nsIn K mainGlobals "abs" = some none)
    (z1 : PySem.W.nsIn K mainGlobals "all" = some none)
    (z2 : PySem.W.nsIn K mainGlobals "bool" = some none)
    (z3 : PySem.W.nsIn K mainGlobals "dict" = some none)
    (z4 : PySem.W.nsIn K mainGlobals "int" = some none)
    (z5 : PySem.W.nsIn K mainGlobals "isinstance" = some none)
    (z6 : PySem.W.nsIn K mainGlobals "len" = some none)
    (z7 : PySem.W.nsIn K mainGlobals "list" = some none)
    (z8 : PySem.W.nsIn K mainGlobals "range" = some none)
    (z9 : PySem.W.nsIn K mainGlobals "sorted" = some none)
    (z10 : PySem.W.nsIn K mainGlobals "str" = some none)
    (z11 : PySem.W.nsIn K mainGlobals "tuple" = some none)
    (b0 : PySem.W.nsIn K mainGlobals "gcd" = some (some (.builtin "math.gcd"))) :
    ∃ fd : FuncData, (∀ (s : Shared) (v : Value), BindsTo s fd ⟨[v], []⟩ [("script", v)]) ∧ ∀ base : Heap, K.In base → base.Ns mainGlobals mg → FnOk pr w K mg base CX0 6 fa fd ["script"] (spD ⟨K, fun _ => False⟩ f_law 1) := by
  have e := hfa.symm.trans (PySem.W.mg_of X G a24)
  cases e
  have T : Facts ⟨K, fun _ => False⟩ mg := {
    d_law_mixed := ⟨_, _, PySem.W.mg_of X G a1, fun_mk (st := s_law_mixed) l1 c1 k1, (fun_mk (st := s_law_mixed) l1 c1 k1).binds (ps := ["number", "place"]) fun _ _ _ _ _ _ us hl => match us, hl with | [_, _], _ => rfl⟩
    d_law_rest := ⟨_, _, PySem.W.mg_of X G a2, fun_mk (st := s_law_rest) l2 c2 k2, (fun_mk (st := s_law_rest) l2 c2 k2).binds (ps := ["script", "place", "fills"]) fun _ _ _ _ _ _ us hl => match us, hl with | [_, _, _], _ => rfl⟩
    d_law_pool := ⟨_, _, PySem.W.mg_of X G a3, fun_mk (st := s_law_pool) l3 c3 k3, (fun_mk (st := s_law_pool) l3 c3 k3).binds (ps := ["script"]) fun _ _ _ _ _ _ us hl => match us, hl with | [_], _ => rfl⟩
    d_nets_of := ⟨_, _, PySem.W.mg_of X G a4, fun_mk (st := s_nets_of) l4 c4 k4, (fun_mk (st := s_nets_of) l4 c4 k4).binds (ps := ["n"]) fun _ _ _ _ _ _ us hl => match us, hl with | [_], _ => rfl⟩
    d_law_next := ⟨_, _, PySem.W.mg_of X G a5, fun_mk (st := s_law_next) l5 c5 k5, (fun_mk (st := s_law_next) l5 c5 k5).binds (ps := ["pool"]) fun _ _ _ _ _ _ us hl => match us, hl with | [_], _ => rfl⟩
    d_law_draw := ⟨_, _, PySem.W.mg_of X G a6, fun_mk (st := s_law_draw) l6 c6 k6, (fun_mk (st := s_law_draw) l6 c6 k6).binds (ps := ["pool", "limit"]) fun _ _ _ _ _ _ us hl => match us, hl with | [_, _], _ => rfl⟩
    d_law_vector := ⟨_, _, PySem.W.mg_of X G a7, fun_mk (st := s_law_vector) l7 c7 k7, (fun_mk (st := s_law_vector) l7 c7 k7).binds (ps := ["pool", "far"]) fun _ _ _ _ _ _ us hl => match us, hl with | [_, _], _ => rfl⟩
    d_law_net := ⟨_, _, PySem.W.mg_of X G a8, fun_mk (st := s_law_net) l8 c8 k8, (fun_mk (st := s_law_net) l8 c8 k8).binds (ps := ["pool", "far"]) fun _ _ _ _ _ _ us hl => match us, hl with | [_, _], _ => rfl⟩
    d_law_area := ⟨_, _, PySem.W.mg_of X G a9, fun_mk (st := s_law_area) l9 c9 k9, (fun_mk (st := s_law_area) l9 c9 k9).binds (ps := ["net"]) fun _ _ _ _ _ _ us hl => match us, hl with | [_], _ => rfl⟩
    d_law_is_dot := ⟨_, _, PySem.W.mg_of X G a10, fun_mk (st := s_law_is_dot) l10 c10 k10, (fun_mk (st := s_law_is_dot) l10 c10 k10).binds (ps := ["net", "place"]) fun _ _ _ _ _ _ us hl => match us, hl with | [_, _], _ => rfl⟩
    d_law_same_dots := ⟨_, _, PySem.W.mg_of X G a11, fun_mk (st := s_law_same_dots) l11 c11 k11, (fun_mk (st := s_law_same_dots) l11 c11 k11).binds (ps := ["one", "other"]) fun _ _ _ _ _ _ us hl => match us, hl with | [_, _], _ => rfl⟩
    d_form_of_all := ⟨_, _, PySem.W.mg_of X G a12, fun_mk (st := s_form_of_all) l12 c12 k12, (fun_mk (st := s_form_of_all) l12 c12 k12).binds (ps := ["vectors"]) fun _ _ _ _ _ _ us hl => match us, hl with | [_], _ => rfl⟩
    d_form_of := ⟨_, _, PySem.W.mg_of X G a13, fun_mk (st := s_form_of) l13 c13 k13, (fun_mk (st := s_form_of) l13 c13 k13).binds (ps := ["net"]) fun _ _ _ _ _ _ us hl => match us, hl with | [_], _ => rfl⟩
    d_law_pick := ⟨_, _, PySem.W.mg_of X G a14, fun_mk (st := s_law_pick) l14 c14 k14, (fun_mk (st := s_law_pick) l14 c14 k14).binds (ps := ["pool", "options"]) fun _ _ _ _ _ _ us hl => match us, hl with | [_, _], _ => rfl⟩
    d_law_same := ⟨_, _, PySem.W.mg_of X G a15, fun_mk (st := s_law_same) l15 c15 k15, (fun_mk (st := s_law_same) l15 c15 k15).binds (ps := ["actual", "due"]) fun _ _ _ _ _ _ us hl => match us, hl with | [_, _], _ => rfl⟩
    d_is_dot := ⟨_, _, PySem.W.mg_of X G a16, fun_mk (st := s_is_dot) l16 c16 k16, (fun_mk (st := s_is_dot) l16 c16 k16).binds (ps := ["net", "place"]) fun _ _ _ _ _ _ us hl => match us, hl with | [_, _], _ => rfl⟩
    d_is_square := ⟨_, _, PySem.W.mg_of X G a17, fun_mk (st := s_is_square) l17 c17 k17, (fun_mk (st := s_is_square) l17 c17 k17).binds (ps := ["net"]) fun _ _ _ _ _ _ us hl => match us, hl with | [_], _ => rfl⟩
    d_mirrors := ⟨_, _, PySem.W.mg_of X G a18, fun_mk (st := s_mirrors) l18 c18 k18, (fun_mk (st := s_mirrors) l18 c18 k18).binds (ps := ["net"]) fun _ _ _ _ _ _ us hl => match us, hl with | [_], _ => rfl⟩
    d_inner := ⟨_, _, PySem.W.mg_of X G a19, fun_mk (st := s_inner) l19 c19 k19, (fun_mk (st := s_inner) l19 c19 k19).binds (ps := ["one", "other"]) fun _ _ _ _ _ _ us hl => match us, hl with | [_, _], _ => rfl⟩
    d_reduced := ⟨_, _, PySem.W.mg_of X G a20, fun_mk (st := s_reduced) l20 c20 k20, (fun_mk (st := s_reduced) l20 c20 k20).binds (ps := ["net"]) fun _ _ _ _ _ _ us hl => match us, hl with | [_], _ => rfl⟩
    d_law_least := ⟨_, _, PySem.W.mg_of X G a21, fun_mk (st := s_law_least) l21 c21 k21, (fun_mk (st := s_law_least) l21 c21 k21).binds (ps := ["net"]) fun _ _ _ _ _ _ us hl => match us, hl with | [_], _ => rfl⟩
    d_cross := ⟨_, _, PySem.W.mg_of X G a22, fun_mk (st := s_cross) l22 c22 k22, (fun_mk (st := s_cross) l22 c22 k22).binds (ps := ["one", "other"]) fun _ _ _ _ _ _ us hl => match us, hl with | [_, _], _ => rfl⟩
    d_area := ⟨_, _, PySem.W.mg_of X G a23, fun_mk (st := s_area) l23 c23 k23, (fun_mk (st := s_area) l23 c23 k23).binds (ps := ["net"]) fun _ _ _ _ _ _ us hl => match us, hl with | [_], _ => rfl⟩
    d_law := ⟨_, _, PySem.W.mg_of X G a24, fun_mk (st := s_law) l24 c24 k24, (fun_mk (st := s_law) l24 c24 k24).binds (ps := ["script"]) fun _ _ _ _ _ _ us hl => match us, hl with | [_], _ => rfl⟩
    z_abs := PySem.W.mg_none_of X G z0
    z_all := PySem.W.mg_none_of X G z1
    z_bool := PySem.W.mg_none_of X G z2
    z_dict := PySem.W.mg_none_of X G z3
    z_int := PySem.W.mg_none_of X G z4
    z_isinstance := PySem.W.mg_none_of X G z5
    z_len := PySem.W.mg_none_of X G z6
    z_list := PySem.W.mg_none_of X G z7
    z_range := PySem.W.mg_none_of X G z8
    z_sorted := PySem.W.mg_none_of X G z9
    z_str := PySem.W.mg_none_of X G z10
    z_tuple := PySem.W.mg_none_of X G z11
    b_gcd := PySem.W.mg_of X G b0 }
  refine ⟨PySem.W.fnOf "law" "law" (defArgs s_law) (defBody s_law) (defScope s_law) .none kV24 dc24 pm24 an24 cd24 ct24, fun s v => .of_eq rfl, fun base _ _ => ?_⟩
  exact ok_law (pr := pr) (w := w) (base := base) T (fun_mk (st := s_law) l24 c24 k24)
end G
/-! The pool that every law draws from. -/
namespace G
open PySem L2 DL
abbrev v2 (a b : Int) : D := .tuple [.int a, .int b]
abbrev scr (ns : List Int) : D := .dict [(.none, .list (ns.map .int))]
abbrev pl (ns : List Int) (k v f : Int) : List D := [scr ns, .int k, .int v, .int f]
structure Pool (ns : List Int) (c : Nat) (p : List D) : Prop where
  ex : ∃ k v f : Int, p = pl ns k v f ∧ 0 ≤ k ∧ k ≤ c ∧ 0 ≤ f ∧ f ≤ c ∧ 0 ≤ v ∧ v.natAbs < 2 ^ 1100000
def Bits (ns : List Int) : Prop := ns.length ≤ 63 ∧ ∀ z ∈ ns, z.natAbs < 2 ^ 1048576
theorem Pool.mono {ns : List Int} {c c' : Nat} {p : List D} (h : Pool ns c p) (l : c ≤ c') : Pool ns c' p := by
  obtain ⟨k, v, f, h1, h2, h3, h4, h5, h6, h7⟩ := h.ex
  exact ⟨k, v, f, h1, h2, by omega, h4, by omega, h6, h7⟩
theorem sm_of {x : Int} {n : Nat} (h : x.natAbs < 2 ^ n) : Sm x n := ⟨h⟩
theorem mixed_eq {a b : Int} {n m : Nat} [Sm a n] [Sm b m] (h : n + m < 10000000) : ∃ v, f_law_mixed [.d (.int a), .d (.int b)] = some (.int v, [.d (.int a), .d (.int b)]) ∧ 0 ≤ v ∧ v.natAbs < 2 ^ 1100000 := by
  have z : ∀ x y : Int, 0 ≤ x % 162259276829213363391578010288127 * 618970019642690137449562111 + y % 618970019642690137449562111 ∧ (x % 162259276829213363391578010288127 * 618970019642690137449562111 + y % 618970019642690137449562111).natAbs < 2 ^ 1100000 := fun x y => by
    have h1 := Int.emod_nonneg x (show (162259276829213363391578010288127 : Int) ≠ 0 by decide)
    have h2 := Int.emod_lt_of_pos x (show (0 : Int) < 162259276829213363391578010288127 by decide)
    have h3 := Int.emod_nonneg y (show (618970019642690137449562111 : Int) ≠ 0 by decide)
    have h4 := Int.emod_lt_of_pos y (show (0 : Int) < 618970019642690137449562111 by decide)
    refine ⟨by omega, Nat.lt_of_lt_of_le (m := 2 ^ 256) (by omega) (Nat.pow_le_pow_right (by decide) (by decide))⟩
  simp (disch := omega) [f_law_mixed, m_law_mixed]
  exact z _ _
theorem atI_map {ns : List Int} {i : Int} (h0 : 0 ≤ i) (h1 : i < ns.length) : ∃ z, z ∈ ns ∧ atI (ns.map PyData.int) i = some (.int z) := by
  have hl : i.toNat < ns.length := by omega
  refine ⟨ns[i.toNat], List.getElem_mem hl, ?_⟩
  have := atI_nat (xs := ns.map PyData.int) (j := i.toNat) (v := .int ns[i.toNat]) (by rw [List.getElem?_map, List.getElem?_eq_getElem hl]; rfl)
  rwa [Int.toNat_of_nonneg h0] at this
theorem rest_eq {ns : List Int} {k f : Int} (hb : Bits ns) (k0 : 0 ≤ k) (k1 : k < 2 ^ 60) (f0 : 0 ≤ f) (f1 : f < 2 ^ 60) :
    ∃ v, f_law_rest [.d (scr ns), .d (.int k), .d (.int f)] = some (.int v, [.d (scr ns), .d (.int k), .d (.int f)]) ∧ 0 ≤ v ∧ v.natAbs < 2 ^ 1100000 := by
  haveI : Sm k 60 := ⟨by omega⟩
  haveI : Sm f 60 := ⟨by omega⟩
  have p18 : (10 : Int) ^ 18 = 1000000000000000000 := by decide
  -- the number that the script gives
  obtain ⟨z, hz, e⟩ : ∃ z : Int, z.natAbs < 2 ^ 1048576 ∧ (pIf (tB (eOp2 aGtI (.e (eOp aLen [(.p 0)])) (.e (eK (.int 0))))) (pSet (.v 3) (eOp aInt [(.e (eOp2 aIx (.p 0) (.e (eOp2 aMod (.e (eOp aInt [(.p 1)])) (.e (eOp aLen [(.p 0)]))))))])) pSkip)
      [some (.d (scr ns)), some (.d (.int k)), some (.d (.int f)), some (.d (.int 0))] = some (.nx, [some (.d (scr ns)), some (.d (.int k)), some (.d (.int f)), some (.d (.int z))]) := by
    by_cases hl : ns.length = 0
    · refine ⟨0, by decide +kernel, ?_⟩
      have hl' : ns = [] := List.length_eq_zero_iff.mp hl
      subst hl'
      simp (disch := omega)
    · have h0 := Int.emod_nonneg k (show (ns.length : Int) ≠ 0 by omega)
      have h1 := Int.emod_lt_of_pos k (show (0 : Int) < ns.length by omega)
      obtain ⟨z, hz, e⟩ := atI_map h0 h1
      refine ⟨z, hb.2 z hz, ?_⟩
      have hp : 0 < ns.length := by omega
      simp (disch := omega) [e, hp]
  haveI : Sm z 1048576 := ⟨hz⟩
  -- made at least nought
  obtain ⟨y, hy0, hy, e2⟩ : ∃ y : Int, 0 ≤ y ∧ y.natAbs < 2 ^ 1048578 ∧ (pIf (tB (eOp2 aLtI (.p 3) (.e (eK (.int 0))))) (pSet (.v 3) (eOp2 aSub (.e (eK (.int 1))) (.e (eOp2 aMulI (.e (eK (.int 2))) (.p 3))))) pSkip)
      [some (.d (scr ns)), some (.d (.int k)), some (.d (.int f)), some (.d (.int z))] = some (.nx, [some (.d (scr ns)), some (.d (.int k)), some (.d (.int f)), some (.d (.int y))]) := by
    have q : (2 : Nat) ^ 1048578 = 4 * 2 ^ 1048576 := by rw [show 1048578 = 1048576 + 2 from rfl, Nat.pow_add]; omega
    by_cases h : z < 0
    · refine ⟨1 - 2 * z, by omega, by omega, ?_⟩
      simp (disch := omega) [h]
    · refine ⟨z, by omega, by omega, ?_⟩
      simp (disch := omega) [h]
  haveI : Sm y 1048578 := ⟨hy⟩
  obtain ⟨v, e3, v0, v1⟩ := mixed_eq (a := y + f * 1000003) (b := k) (by omega)
  by_cases hc : f = 0 ∧ k < ns.length ∧ 1000000000000000000 ≤ y
  · obtain ⟨rfl, h2, h3⟩ := hc
    refine ⟨y - 1000000000000000000, ?_, by omega, ?_⟩
    · show fnD 4 m_law_rest _ = _
      unfold m_law_rest
      rw [ev_fn]
      simp (disch := omega) [-ev_if, e, e2]
      simp (disch := omega) [h2, h3, p18]
    · exact Nat.lt_of_lt_of_le (m := 2 ^ 1048578) (by omega) (Nat.pow_le_pow_right (by decide) (by decide))
  · refine ⟨v, ?_, v0, v1⟩
    show fnD 4 m_law_rest _ = _
    unfold m_law_rest
    rw [ev_fn]
    simp (disch := omega) [-ev_if, e, e2]
    by_cases f0 : f = 0
    · subst f0
      by_cases k2 : k < ns.length
      · have h3 : ¬ (1000000000000000000 ≤ y) := fun q => hc ⟨rfl, k2, q⟩
        simp at e3
        simp (disch := omega) [k2, h3, e3, p18]
      · simp at e3
        simp (disch := omega) [k2, e3, p18]
    · simp (disch := omega) [f0, e3]
theorem pool_eq {ns : List Int} (hb : Bits ns) : ∃ p, f_law_pool [.d (scr ns)] = some (.list p, [.d (scr ns)]) ∧ Pool ns 0 p := by
  obtain ⟨v, e, v0, v1⟩ := rest_eq hb (k := 0) (f := 0) (by omega) (by omega) (by omega) (by omega)
  refine ⟨pl ns 0 v 0, ?_, 0, v, 0, rfl, by omega, by omega, by omega, by omega, v0, v1⟩
  simp (disch := omega) [f_law_pool, m_law_pool, e]
theorem next_eq {ns : List Int} {c : Nat} {p : List D} (hb : Bits ns) (hp : Pool ns c p) (hc : c < 2 ^ 59) : ∃ p', f_law_next [.l .rw p] = some (.none, [.l .rw p']) ∧ Pool ns (c + 1) p' := by
  obtain ⟨k, v, f, rfl, h2, h3, h4, h5, h6, h7⟩ := hp.ex
  obtain ⟨u, e, u0, u1⟩ := rest_eq hb (k := k + 1) (f := 0) (by omega) (by omega) (by omega) (by omega)
  refine ⟨pl ns (k + 1) u 0, ?_, k + 1, u, 0, rfl, by omega, by omega, by omega, by omega, u0, u1⟩
  simp [f_law_next, m_law_next, e, ixN]
theorem draw_eq {ns : List Int} {c : Nat} {p : List D} {l : Int} (hb : Bits ns) (hp : Pool ns c p) (hc : c < 2 ^ 59) (l0 : 0 < l) (l1 : l < 2 ^ 60) :
    ∃ r p', f_law_draw [.l .rw p, .d (.int l)] = some (.int r, [.l .rw p', .d (.int l)]) ∧ 0 ≤ r ∧ r < l ∧ Pool ns (c + 1) p' := by
  obtain ⟨k, v, f, rfl, h2, h3, h4, h5, h6, h7⟩ := hp.ex
  haveI : Sm l 60 := ⟨by omega⟩
  obtain ⟨u, e, u0, u1⟩ := rest_eq hb (k := k) (f := f + 1) (by omega) (by omega) (by omega) (by omega)
  have fin : ∀ v : Int, 0 ≤ v → v.natAbs < 2 ^ 1100000 → 0 ≤ v / l ∧ (v / l).natAbs < 2 ^ 1100000 := fun v a b =>
    ⟨Int.ediv_nonneg a (by omega), Nat.lt_of_le_of_lt (Int.natAbs_ediv_le_natAbs v l) b⟩
  by_cases hv : v ≤ 1
  · refine ⟨u % l, pl ns k (u / l) (f + 1), ?_, Int.emod_nonneg _ (by omega), Int.emod_lt_of_pos _ l0, k, u / l, f + 1, rfl, h2, by omega, by omega, by omega, (fin u u0 u1).1, (fin u u0 u1).2⟩
    simp (disch := omega) [f_law_draw, m_law_draw, e, ixN, hv]
  · refine ⟨v % l, pl ns k (v / l) f, ?_, Int.emod_nonneg _ (by omega), Int.emod_lt_of_pos _ l0, k, v / l, f, rfl, h2, by omega, by omega, by omega, (fin v h6 h7).1, (fin v h6 h7).2⟩
    simp (disch := omega) [f_law_draw, m_law_draw, ixN, hv]
theorem pick_eq {ns : List Int} {c : Nat} {p opts : List D} (hb : Bits ns) (hp : Pool ns c p) (hc : c < 2 ^ 59) (l0 : 0 < opts.length) (l1 : opts.length < 1000) :
    ∃ d p', f_law_pick [.l .rw p, .d (.list opts)] = some (d, [.l .rw p', .d (.list opts)]) ∧ d ∈ opts ∧ Pool ns (c + 1) p' := by
  obtain ⟨r, p', e, r0, r1, hp'⟩ := draw_eq hb hp hc (l := opts.length) (by omega) (by omega)
  have hr : r.toNat < opts.length := by omega
  have e2 : atI opts r = some opts[r.toNat] := by
    have := atI_nat (xs := opts) (j := r.toNat) (v := opts[r.toNat]) (List.getElem?_eq_getElem hr)
    rwa [Int.toNat_of_nonneg r0] at this
  refine ⟨opts[r.toNat], p', ?_, List.getElem_mem hr, hp'⟩
  simp (disch := omega) [f_law_pick, m_law_pick, e, e2]
end G
/-! The script handed in. -/
namespace DL
open PySem L2
theorem reps_of_ints {κ : Kx} {F : Hp} : ∀ ns : List Int, Reps κ F (ns.map V.int) (ns.map PyData.int)
  | [] => .nil
  | n :: ns => .cons (.int n) (reps_of_ints ns)
theorem sp_script {κ : Kx} {f : Fn} {H : Hp} {a : Addr} {ns : List Int} (hS : SqL κ.K H a (ns.map V.int)) (h : ∃ r, f [.d (.dict [(.none, .list (ns.map .int))])] = some (.bool true, r)) :
    spD κ f 1 [.ref a] H (fun v _ => v = .bl true) fun _ _ _ => False := by
  obtain ⟨r, h⟩ := h
  refine ⟨[.d (.dict [(.none, .list (ns.map .int))])], H, fun _ => 0, .bool true, r, rfl, rfl, ⟨rfl, Sub.refl H, fun i s e => ?_, fun i j s t e1 e2 o1 o2 _ => ?_⟩, rfl, h, fun v H' F' _ _ _ rv => ?_⟩
  · cases i with
    | zero =>
      cases e
      exact ⟨.ref a, rfl, .scr hS (reps_of_ints ns)⟩
    | succ i => simp at e
  · cases i with
    | zero => cases e1; cases o1
    | succ i => simp at e1
  · cases rv
    rfl
end DL
namespace G
open PySem L2
theorem bits_of {ns : List Int} (h1 : ns.length ≤ 63) (h2 : ∀ z ∈ ns, Builtin.Int.intBits z ≤ 1048576) : Bits ns := by
  refine ⟨h1, fun z hz => ?_⟩
  have h := h2 z hz
  unfold Builtin.Int.intBits at h
  by_cases e : z = 0
  · subst e; exact Nat.pow_pos (by decide)
  · have q : z.natAbs ≠ 0 := by omega
    rw [if_neg (by simpa using e)] at h
    exact (Nat.log2_lt q).mp (by omega)
end G
/-! Vectors and nets drawn from the pool. -/
namespace G
open PySem L2 DL
theorem vector_eq {ns : List Int} {c : Nat} {p : List D} {far : Int} (hb : Bits ns) (hp : Pool ns c p) (hc : c < 2 ^ 58) (l0 : 0 ≤ far) (l1 : far < 2 ^ 50) :
    ∃ x y p', f_law_vector [.l .rw p, .d (.int far)] = some (v2 x y, [.l .rw p', .d (.int far)]) ∧ (-far ≤ x ∧ x ≤ far) ∧ (-far ≤ y ∧ y ≤ far) ∧ Pool ns (c + 2) p' := by
  haveI : Sm far 50 := ⟨by omega⟩
  obtain ⟨r, p1, e1, r0, r1, hp1⟩ := draw_eq hb hp (by omega) (l := 2 * far + 1) (by omega) (by omega)
  obtain ⟨s, p2, e2, s0, s1, hp2⟩ := draw_eq hb hp1 (by omega) (l := 2 * far + 1) (by omega) (by omega)
  refine ⟨r - far, s - far, p2, ?_, by omega, by omega, hp2⟩
  simp (disch := omega) [f_law_vector, m_law_vector, e1, e2]
/-- twice the area, with its sign -/
abbrev det (a b c d : Int) : Int := a * d - b * c
theorem net_eq {ns : List Int} {c : Nat} {p : List D} {far : Int} (hb : Bits ns) (hp : Pool ns c p) (hc : c < 2 ^ 57) (l0 : 0 < far) (l1 : far < 2 ^ 40) :
    ∃ x y z u p', f_law_net [.l .rw p, .d (.int far)] = some (.tuple [v2 x y, v2 z u], [.l .rw p', .d (.int far)]) ∧ det x y z u ≠ 0 ∧
      x.natAbs ≤ far.natAbs + 1 ∧ y.natAbs ≤ far.natAbs + 1 ∧ z.natAbs ≤ far.natAbs + 1 ∧ u.natAbs ≤ far.natAbs + 1 ∧ Pool ns (c + 7) p' := by
  haveI : Sm far 40 := ⟨by omega⟩
  obtain ⟨x, y, p1, e1, hx, hy, hp1⟩ := vector_eq hb hp (by omega) (by omega) (by omega) (far := far)
  obtain ⟨z, u, p2, e2, hz, hu, hp2⟩ := vector_eq hb hp1 (by omega) (by omega) (by omega) (far := far)
  haveI : Sm x 41 := ⟨by omega⟩
  haveI : Sm y 41 := ⟨by omega⟩
  haveI : Sm z 41 := ⟨by omega⟩
  haveI : Sm u 41 := ⟨by omega⟩
  by_cases h : x * u = y * z
  · obtain ⟨a, p3, e3, a0, a1, hp3⟩ := draw_eq hb hp2 (by omega) (l := far) (by omega) (by omega)
    obtain ⟨b, p4, e4, b0, b1, hp4⟩ := draw_eq hb hp3 (by omega) (l := far) (by omega) (by omega)
    obtain ⟨d, p5, e5, d0, d1, hp5⟩ := draw_eq hb hp4 (by omega) (l := 2) (by omega) (by omega)
    haveI : Sm a 41 := ⟨by omega⟩
    haveI : Sm b 41 := ⟨by omega⟩
    haveI : Sm d 41 := ⟨by omega⟩
    have hd : det (1 + a) b (-b + d) (1 + a + 1) ≠ 0 := by
      have q1 : 0 ≤ a * a := Int.mul_nonneg a0 a0
      have q2 : 0 ≤ b * (b - d) := by
        by_cases hb0 : b = 0
        · subst hb0; simp
        · exact Int.mul_nonneg b0 (by omega)
      have e : det (1 + a) b (-b + d) (1 + a + 1) = (a * a + 3 * a + 2) + b * (b - d) := by
        unfold det
        simp only [Int.mul_add, Int.add_mul, Int.mul_sub, Int.mul_neg]
        omega
      omega
    have hd' : ¬ ((1 + a) * (1 + a + 1) = b * (-b + d)) := fun q => hd (by unfold det; omega)
    refine ⟨1 + a, b, -b + d, 1 + a + 1, p5, ?_, hd, by omega, by omega, by omega, by omega, hp5.mono (by omega)⟩
    simp (disch := omega) [f_law_net, m_law_net, e1, e2, e3, e4, e5, h, hd']
  · refine ⟨x, y, z, u, p2, ?_, fun q => h (by unfold det at q; omega), by omega, by omega, by omega, by omega, hp2.mono (by omega)⟩
    simp (disch := omega) [f_law_net, m_law_net, e1, e2, h]
end G
/-! The form of a net. -/
namespace G
open PySem L2 DL Lat
abbrev tEu : T := t_form_of_all_2
abbrev mEu : DL.P := l_form_of_all_1
theorem fdiv_rest {a b : Int} (h : b ≠ 0) : (a - a.fdiv b * b).natAbs < b.natAbs := by
  have e : a - a.fdiv b * b = a.fmod b := by
    have := Int.mul_fdiv_add_fmod a b
    rw [Int.mul_comm]
    omega
  rw [e]
  exact abs_fmod_lt a b h
theorem pow_step {a b f n w N : Nat} (ha : a < 2 ^ n) (hb : b < 2 ^ n) (hf : f ≤ N) (hN : N + 1 ≤ 2 ^ w) : a + f * b < 2 ^ (n + w) := by
  have h1 : f * b ≤ N * b := Nat.mul_le_mul_right _ hf
  have h2 : (N + 1) * 2 ^ n ≤ 2 ^ w * 2 ^ n := Nat.mul_le_mul_right _ hN
  have h3 : N * b ≤ N * 2 ^ n := Nat.mul_le_mul_left _ (by omega)
  have h4 : 2 ^ (n + w) = 2 ^ w * 2 ^ n := by rw [Nat.pow_add, Nat.mul_comm]
  have h5 : (N + 1) * 2 ^ n = N * 2 ^ n + 2 ^ n := Nat.succ_mul _ _
  omega
def mu4 (env : DL.Env) : Nat := match (env[4]? : Option (Option DL.S)) with
  | some (some (.d (.tuple [_, .int s]))) => s.natAbs
  | _ => 0
theorem euclid {s0 s3 s5 : Option S} {low l0 l1 h0 h1 : Int} {N W B : Nat} (hN : N + 1 ≤ 2 ^ W) (hW : W ≤ 100) (hB : B + W * N < 40000000) (hN2 : N < 10 ^ 30)
    (b1 : l0.natAbs < 2 ^ B) (b2 : h0.natAbs < 2 ^ B) (b3 : l1.natAbs ≤ N) (b4 : h1.natAbs ≤ N) :
    ∃ l0' l1' h0' s5', pWhile tEu mEu fuel [s0, some (.d (.int low)), some (.d (v2 l0 l1)), s3, some (.d (v2 h0 h1)), s5] = some (.nx, [s0, some (.d (.int low)), some (.d (v2 l0' l1')), s3, some (.d (v2 h0' 0)), s5']) ∧
      (∀ a x y, In3 a l0' l1' h0' 0 x y ↔ In3 a l0 l1 h0 h1 x y) ∧ l0'.natAbs < 2 ^ (B + W * N) ∧ h0'.natAbs < 2 ^ (B + W * N) ∧ l1'.natAbs ≤ N := by
  let J : DL.Env → Int → Int → Int → Int → Prop := fun env p q r s => (∃ s5', env = [s0, some (.d (.int low)), some (.d (v2 p q)), s3, some (.d (v2 r s)), s5']) ∧
    (∀ a x y, In3 a p q r s x y ↔ In3 a l0 l1 h0 h1 x y) ∧ p.natAbs < 2 ^ (B + W * (N - s.natAbs)) ∧ r.natAbs < 2 ^ (B + W * (N - s.natAbs)) ∧ q.natAbs ≤ N ∧ s.natAbs ≤ N
  obtain ⟨o, e', h1, rfl, p, q, r, ⟨s5', rfl⟩, j2, j3, j4, j5, j6⟩ := while_rule (t := tEu) (m := mEu) (fun env => ∃ p q r s, J env p q r s)
    mu4 (fun o env => o = .nx ∧ ∃ p q r, J env p q r 0)
    (fun env ⟨p, q, r, s, ⟨s5', e⟩, j2, j3, j4, j5, j6⟩ => by
      subst e
      by_cases z : s = 0
      · subst z
        refine .inl ⟨_, ?_, rfl, p, q, r, ⟨s5', rfl⟩, j2, j3, j4, j5, j6⟩
        simp [t_form_of_all_2]
      · refine .inr ⟨[s0, some (.d (.int low)), some (.d (v2 p q)), s3, some (.d (v2 r s)), s5'], ?_, .inl ⟨[s0, some (.d (.int low)), some (.d (v2 r s)), s3, some (.d (v2 (p - q.fdiv s * r) (q - q.fdiv s * s))), some (.d (.int (q.fdiv s)))], ?_, ?_, ?_⟩⟩
        · simp [z, t_form_of_all_2]
        · haveI : Sm s W := ⟨by omega⟩
          haveI : Sm q W := ⟨by omega⟩
          have bl : B + W * (N - s.natAbs) ≤ B + W * N := Nat.add_le_add_left (Nat.mul_le_mul_left _ (by omega)) _
          haveI : Sm r (B + W * N) := ⟨Nat.lt_of_lt_of_le j4 (Nat.pow_le_pow_right (by decide) bl)⟩
          simp (disch := omega) [ev_div, l_form_of_all_1]
        · have r1 := fdiv_rest (a := q) z
          have r2 : (q.fdiv s).natAbs ≤ N := Nat.le_trans (abs_fdiv_le q s) j5
          have r3 : (p - q.fdiv s * r).natAbs ≤ p.natAbs + (q.fdiv s).natAbs * r.natAbs := by
            rw [← Int.natAbs_mul]
            omega
          have r4 := pow_step j3 j4 r2 hN
          have r5 : B + W * (N - s.natAbs) + W ≤ B + W * (N - (q - q.fdiv s * s).natAbs) := by
            have : W * (N - s.natAbs) + W = W * (N - s.natAbs + 1) := by rw [Nat.mul_add, Nat.mul_one]
            have : W * (N - s.natAbs + 1) ≤ W * (N - (q - q.fdiv s * s).natAbs) := Nat.mul_le_mul_left _ (by omega)
            omega
          have r6 := Nat.pow_le_pow_right (n := 2) (by decide) r5
          have r7 : 2 ^ (B + W * (N - s.natAbs)) ≤ 2 ^ (B + W * (N - s.natAbs) + W) := Nat.pow_le_pow_right (by decide) (by omega)
          exact ⟨r, s, _, _, ⟨_, rfl⟩, fun a x y => in3_step.trans (j2 a x y), by omega, by omega, j6, by omega⟩
        · exact fdiv_rest (a := q) z) fuel _ ⟨l0, l1, h0, h1, ⟨s5, rfl⟩, fun _ _ _ => Iff.rfl, Nat.lt_of_lt_of_le b1 (Nat.pow_le_pow_right (by decide) (by omega)), Nat.lt_of_lt_of_le b2 (Nat.pow_le_pow_right (by decide) (by omega)), b3, b4⟩ (by
        show h1.natAbs < fuel
        have : (10 : Nat) ^ 30 < fuel := by unfold fuel; exact Nat.pow_lt_pow_right (by decide) (by decide)
        omega)
  exact ⟨p, q, r, s5', h1, j2, by simpa using j3, by simpa using j4, j5⟩
/-- the places that whole multiples of vectors come to -/
def LatL : List (Int × Int) → (Int → Int → Prop) → Int → Int → Prop
  | [], L => L
  | w :: ws, L => LatL ws (Ad L w.1 w.2)
theorem LatL.congr : ∀ {ws : List (Int × Int)} {L M : Int → Int → Prop}, (∀ x y, L x y ↔ M x y) → ∀ x y, LatL ws L x y ↔ LatL ws M x y
  | [], _, _, h => h
  | w :: ws, _, _, h => LatL.congr (ws := ws) fun x y => Ad.congr h
abbrev vD (w : Int × Int) : D := v2 w.1 w.2
theorem form_all {d : D} {ws : List (Int × Int)} {N W : Nat} (hs : seqD d = some (ws.map vD)) (hN : N + 1 ≤ 2 ^ W) (hW : W ≤ 100) (hN2 : N < 10 ^ 30) (hB : W + (W * N + 1) * ws.length < 40000000)
    (hb : ∀ w ∈ ws, w.1.natAbs ≤ N ∧ w.2.natAbs ≤ N) (hd : ∃ x y z u, LatL ws (In2 0 0 0) x y ∧ LatL ws (In2 0 0 0) z u ∧ x * u - y * z ≠ 0) :
    ∃ a b c, f_form_of_all [.d d] = some (.tuple [v2 a 0, v2 b c], [.d d]) ∧ 0 < a ∧ 0 < c ∧ (0 ≤ b ∧ b < a) ∧ ∀ x y, In2 a b c x y ↔ LatL ws (In2 0 0 0) x y := by
  let K : Nat → Nat := fun r => W + (W * N + 1) * (ws.length - r)
  obtain ⟨e', h1, rest, low, l0, l1, s3, s4, s5, g1, rfl, g2, g3, g4, g5, g6, g7⟩ := for_all (p := .v 3) (body := l_form_of_all_3)
    (fun ds env => ∃ rest low l0 l1 s3 s4 s5, ds = rest.map vD ∧ env = [some (.d d), some (.d (.int low)), some (.d (v2 l0 l1)), s3, s4, s5] ∧ 0 ≤ low ∧ rest.length ≤ ws.length ∧ l0.natAbs < 2 ^ K rest.length ∧ l1.natAbs ≤ N ∧ (∀ w ∈ rest, w.1.natAbs ≤ N ∧ w.2.natAbs ≤ N) ∧
      ∀ x y, LatL rest (In2 low l0 l1) x y ↔ LatL ws (In2 0 0 0) x y)
    (fun dd ds env h => by
      obtain ⟨rest, low, l0, l1, s3, s4, s5, g1, rfl, g2, g3, g4, g5, g6, g7⟩ := h
      cases rest with
      | nil => cases g1
      | cons w rest =>
        rw [List.map_cons] at g1
        obtain ⟨rfl, rfl⟩ := List.cons.inj g1
        rw [List.length_cons] at g3 g4
        have k1 : K (rest.length + 1) + W * N + 1 = K rest.length := by
          show W + (W * N + 1) * (ws.length - (rest.length + 1)) + W * N + 1 = W + (W * N + 1) * (ws.length - rest.length)
          have : ws.length - rest.length = ws.length - (rest.length + 1) + 1 := by omega
          rw [this, Nat.mul_add, Nat.mul_one]
          omega
        have k2 : K rest.length ≤ W + (W * N + 1) * ws.length := Nat.add_le_add_left (Nat.mul_le_mul_left _ (Nat.sub_le _ _)) _
        have k3 : W ≤ K (rest.length + 1) := Nat.le_add_right _ _
        have hw := g6 w List.mem_cons_self
        obtain ⟨l0', l1', h0', s5', q1, q2, q3, q4, q5⟩ := euclid (s0 := some (.d d)) (s3 := some (.d (vD w))) (s5 := s5) (low := low) (l0 := l0) (l1 := l1) (h0 := w.1) (h1 := w.2) hN hW (show K (rest.length + 1) + W * N < 40000000 by omega) hN2 g4
          (Nat.lt_of_lt_of_le (show w.1.natAbs < 2 ^ W by omega) (Nat.pow_le_pow_right (by decide) k3)) g5 hw.2
        refine ⟨[some (.d d), some (.d (.int low)), some (.d (v2 l0 l1)), some (.d (vD w)), s4, s5], by simp, [some (.d d), some (.d (.int ((Nat.gcd low.natAbs h0'.natAbs : Nat) : Int))), some (.d (v2 l0' l1')), some (.d (vD w)), some (.d (v2 h0' 0)), s5'], .inl ?_, rest, _, l0', l1', _, _, _, rfl, rfl, by omega, by omega, ?_, q5, fun x hx => g6 x (List.mem_cons_of_mem _ hx), fun x y => ?_⟩
        · simp [q1, l_form_of_all_3]
        · exact Nat.lt_of_lt_of_le q3 (Nat.pow_le_pow_right (by decide) (by omega))
        · rw [← g7 x y]
          exact LatL.congr (ws := rest) (fun x y => in3_end.symm.trans ((q2 _ _ _).trans in3_start)) x y) (ws.map vD) [some (.d d), some (.d (.int 0)), some (.d (v2 0 0)), none, none, none]
    ⟨ws, 0, 0, 0, none, none, none, rfl, rfl, by omega, by omega, Nat.pow_pos (by decide), by simp, hb, fun _ _ => Iff.rfl⟩
  have : rest = [] := by
    cases rest with
    | nil => rfl
    | cons _ _ => cases g1
  subst this
  have g8 : ∀ x y, In2 low l0 l1 x y ↔ LatL ws (In2 0 0 0) x y := g7
  obtain ⟨x, y, z, u, d1, d2, d3⟩ := hd
  obtain ⟨k, d4⟩ := in2_cross ((g8 _ _).mpr d1) ((g8 _ _).mpr d2)
  have z1 : low ≠ 0 := fun q => d3 (by rw [d4, q]; simp)
  have z2 : l1 ≠ 0 := fun q => d3 (by rw [d4, q]; simp)
  have z3 : 0 < low := by omega
  by_cases hl : l1 < 0
  · refine ⟨low, -l0 % low, -l1, ?_, z3, by omega, ⟨Int.emod_nonneg _ z1, Int.emod_lt_of_pos _ z3⟩, fun x y => in2_mod.trans (in2_neg.trans (g8 x y))⟩
    simp (disch := omega) [f_form_of_all, m_form_of_all, hs, h1, hl]
  · refine ⟨low, l0 % low, l1, ?_, z3, by omega, ⟨Int.emod_nonneg _ z1, Int.emod_lt_of_pos _ z3⟩, fun x y => in2_mod.trans (g8 x y)⟩
    simp (disch := omega) [f_form_of_all, m_form_of_all, hs, h1, hl]
end G
/-! Dots of a net. -/
namespace G
open PySem L2 DL Lat
abbrev nD (a b c d : Int) : D := .tuple [v2 a b, v2 c d]
/-- a net as the laws draw them -/
structure Net (a b c d : Int) : Prop where
  ne : a * d - b * c ≠ 0
  ba : a.natAbs ≤ 4000
  bb : b.natAbs ≤ 4000
  bc : c.natAbs ≤ 4000
  bd : d.natAbs ≤ 4000
theorem mul_le {a b m : Int} {n k : Nat} (h1 : a.natAbs ≤ n) (h2 : b.natAbs ≤ k) : (a * b).natAbs ≤ n * k := by
  rw [Int.natAbs_mul]; exact Nat.mul_le_mul h1 h2
theorem Net.det {a b c d : Int} (h : Net a b c d) : (a * d - b * c).natAbs ≤ 32000000 := by
  have h1 := mul_le (m := 0) h.ba h.bd
  have h2 := mul_le (m := 0) h.bb h.bc
  omega
theorem form_of_eq {a b c d : Int} (h : Net a b c d) : ∃ p q s, f_form_of [.d (nD a b c d)] = some (nD p 0 q s, [.d (nD a b c d)]) ∧ 0 < p ∧ 0 < s ∧ (0 ≤ q ∧ q < p) ∧ (∀ x y, In2 p q s x y ↔ InN a b c d x y) ∧ p ≤ 32000000 ∧ s ≤ 32000000 := by
  have hl : ∀ x y, LatL [(a, b), (c, d)] (In2 0 0 0) x y ↔ InN a b c d x y := fun x y => ad2
  obtain ⟨p, q, s, e, h1, h2, h3, h4⟩ := form_all (d := nD a b c d) (ws := [(a, b), (c, d)]) (N := 4000) (W := 12) rfl (by decide) (by decide) (by decide) (by show 12 + (12 * 4000 + 1) * 2 < 40000000; decide)
    (fun w hw => by
      rcases List.mem_cons.mp hw with rfl | hw
      · exact ⟨h.ba, h.bb⟩
      · rcases List.mem_cons.mp hw with rfl | hw
        · exact ⟨h.bc, h.bd⟩
        · cases hw) ⟨a, b, c, d, (hl _ _).mpr inN_one, (hl _ _).mpr inN_two, h.ne⟩
  have h5 : ∀ x y, In2 p q s x y ↔ InN a b c d x y := fun x y => (h4 x y).trans (hl x y)
  have h6 := form_area h5
  have h7 := h.det
  have h8 : (p * s).natAbs ≤ 32000000 := by omega
  rw [Int.natAbs_mul] at h8
  have h9 : p.natAbs * 1 ≤ p.natAbs * s.natAbs := Nat.mul_le_mul_left _ (by omega)
  have h10 : 1 * s.natAbs ≤ p.natAbs * s.natAbs := Nat.mul_le_mul_right _ (by omega)
  refine ⟨p, q, s, ?_, h1, h2, h3, h5, by omega, by omega⟩
  simp [f_form_of, m_form_of, e]
/-- is the place a dot? -/
def dotB (a b c d x y : Int) : Bool := decide ((a * d - b * c) ∣ (x * d - y * c) ∧ (a * d - b * c) ∣ (a * y - b * x))
theorem dotB_iff {a b c d x y : Int} (h : a * d - b * c ≠ 0) : dotB a b c d x y = true ↔ InN a b c d x y := by
  unfold dotB
  rw [decide_eq_true_iff, inN_iff h]
theorem dvd_iff {w x : Int} : x % (w.natAbs : Int) = 0 ↔ w ∣ x := by
  rw [← Int.natAbs_dvd]
  exact (Int.dvd_iff_emod_eq_zero).symm
theorem and_bool {p q : Prop} [Decidable p] [Decidable q] {env : DL.Env} (x : Option (D × DL.Env)) (h : x = if p then some (.bool (decide q), env) else some (.bool false, env)) : x = some (.bool (decide (p ∧ q)), env) := by
  subst h
  by_cases hp : p <;> simp [hp]
theorem law_is_dot_eq {a b c d x y : Int} {n m : Nat} (h : Net a b c d) [Sm x n] [Sm y m] (hn : n + m < 1000000) : f_law_is_dot [.d (nD a b c d), .d (v2 x y)] = some (.bool (dotB a b c d x y), [.d (nD a b c d), .d (v2 x y)]) := by
  have ha := h.ba
  have hb := h.bb
  have hc := h.bc
  have hd := h.bd
  have hne := h.ne
  haveI : Sm a 12 := ⟨by omega⟩
  haveI : Sm b 12 := ⟨by omega⟩
  haveI : Sm c 12 := ⟨by omega⟩
  haveI : Sm d 12 := ⟨by omega⟩
  have hp : (0 : Int) < ((a * d - b * c).natAbs : Int) := by omega
  unfold dotB
  by_cases q1 : (a * d - b * c) ∣ (x * d - y * c)
  · by_cases q2 : (a * d - b * c) ∣ (a * y - b * x)
    · have e1 := dvd_iff.mpr q1
      have e2 := dvd_iff.mpr q2
      simp (disch := omega) [f_law_is_dot, m_law_is_dot, e1, e2, q1, q2]
    · have e1 := dvd_iff.mpr q1
      have e2 : ¬ (a * y - b * x) % ((a * d - b * c).natAbs : Int) = 0 := fun z => q2 (dvd_iff.mp z)
      simp (disch := omega) [f_law_is_dot, m_law_is_dot, e1, e2, q1, q2]
  · have e1 : ¬ (x * d - y * c) % ((a * d - b * c).natAbs : Int) = 0 := fun z => q1 (dvd_iff.mp z)
    simp (disch := omega) [f_law_is_dot, m_law_is_dot, e1, q1]
theorem law_area_eq {a b c d : Int} (h : Net a b c d) : f_law_area [.d (nD a b c d)] = some (.int ((a * d - b * c).natAbs : Int), [.d (nD a b c d)]) := by
  have ha := h.ba
  have hb := h.bb
  have hc := h.bc
  have hd := h.bd
  haveI : Sm a 12 := ⟨by omega⟩
  haveI : Sm b 12 := ⟨by omega⟩
  haveI : Sm c 12 := ⟨by omega⟩
  haveI : Sm d 12 := ⟨by omega⟩
  simp (disch := omega) [f_law_area, m_law_area]
end G
/-! Dots as the program tells them; reduced nets. -/
namespace G
open PySem L2 DL Lat
theorem is_dot_eq {a b c d x y : Int} {n m : Nat} (h : Net a b c d) [Sm x n] [Sm y m] (hn : n + m < 1000000) : f_is_dot [.d (nD a b c d), .d (v2 x y)] = some (.bool (dotB a b c d x y), [.d (nD a b c d), .d (v2 x y)]) := by
  obtain ⟨p, q, s, e, h1, h2, h3, h4, h5, h6⟩ := form_of_eq h
  haveI : Sm p 26 := ⟨by omega⟩
  haveI : Sm q 26 := ⟨by omega⟩
  haveI : Sm s 26 := ⟨by omega⟩
  have g : dotB a b c d x y = decide (s ∣ y ∧ p ∣ (x - y / s * q)) := by
    rw [Bool.eq_iff_iff, dotB_iff h.ne, decide_eq_true_iff, ← h4 x y]
    exact in2_iff (by omega) (by omega)
  rw [g]
  by_cases q1 : s ∣ y
  · have e1 : y % s = 0 := Int.emod_eq_zero_of_dvd q1
    by_cases q2 : p ∣ (x - y / s * q)
    · have e2 : (x - y / s * q) % p = 0 := Int.emod_eq_zero_of_dvd q2
      simp (disch := omega) [f_is_dot, m_is_dot, e, e1, e2, q1, q2]
    · have e2 : ¬ (x - y / s * q) % p = 0 := fun z => q2 (Int.dvd_of_emod_eq_zero z)
      simp (disch := omega) [f_is_dot, m_is_dot, e, e1, e2, q1, q2]
  · have e1 : ¬ y % s = 0 := fun z => q1 (Int.dvd_of_emod_eq_zero z)
    simp (disch := omega) [f_is_dot, m_is_dot, e, e1, q1]
end G
/-! Dots as the program tells them; reduced nets. -/
namespace G
open PySem L2 DL Lat
theorem cross_eq {a b c d : Int} {n1 n2 n3 n4 : Nat} [Sm a n1] [Sm b n2] [Sm c n3] [Sm d n4] (h : n1 + n2 + n3 + n4 < 1000000) : f_cross [.d (v2 a b), .d (v2 c d)] = some (.int (a * d - b * c), [.d (v2 a b), .d (v2 c d)]) := by
  simp (disch := omega) [f_cross, m_cross]
theorem area_eq {a b c d : Int} (h : Net a b c d) : f_area [.d (nD a b c d)] = some (.int ((a * d - b * c).natAbs : Int), [.d (nD a b c d)]) := by
  have ha := h.ba
  have hb := h.bb
  have hc := h.bc
  have hd := h.bd
  haveI : Sm a 12 := ⟨by omega⟩
  haveI : Sm b 12 := ⟨by omega⟩
  haveI : Sm c 12 := ⟨by omega⟩
  haveI : Sm d 12 := ⟨by omega⟩
  simp (disch := omega) [f_area, m_area, cross_eq]
theorem inner_eq {a b c d : Int} {n1 n2 n3 n4 : Nat} [Sm a n1] [Sm b n2] [Sm c n3] [Sm d n4] (h : n1 + n2 + n3 + n4 < 1000000) : f_inner [.d (v2 a b), .d (v2 c d)] = some (.int (a * c + b * d), [.d (v2 a b), .d (v2 c d)]) := by
  simp (disch := omega) [f_inner, m_inner]
end G
/-! Dots of nets of any size. -/
namespace G
open PySem L2 DL Lat
section
variable {a b c d x y : Int} {n1 n2 n3 n4 n m : Nat} [Sm a n1] [Sm b n2] [Sm c n3] [Sm d n4]
theorem law_is_dot_gen (hne : a * d - b * c ≠ 0) [Sm x n] [Sm y m] (hn : n + m + n1 + n2 + n3 + n4 < 1000) : f_law_is_dot [.d (nD a b c d), .d (v2 x y)] = some (.bool (dotB a b c d x y), [.d (nD a b c d), .d (v2 x y)]) := by
  have hp : (0 : Int) < ((a * d - b * c).natAbs : Int) := by omega
  unfold dotB
  by_cases q1 : (a * d - b * c) ∣ (x * d - y * c)
  · by_cases q2 : (a * d - b * c) ∣ (a * y - b * x)
    · have e1 := dvd_iff.mpr q1
      have e2 := dvd_iff.mpr q2
      simp (disch := omega) [f_law_is_dot, m_law_is_dot, e1, e2, q1, q2]
    · have e1 := dvd_iff.mpr q1
      have e2 : ¬ (a * y - b * x) % ((a * d - b * c).natAbs : Int) = 0 := fun z => q2 (dvd_iff.mp z)
      simp (disch := omega) [f_law_is_dot, m_law_is_dot, e1, e2, q1, q2]
  · have e1 : ¬ (x * d - y * c) % ((a * d - b * c).natAbs : Int) = 0 := fun z => q1 (dvd_iff.mp z)
    simp (disch := omega) [f_law_is_dot, m_law_is_dot, e1, q1]
theorem law_area_gen (hn : n1 + n2 + n3 + n4 < 1000) : f_law_area [.d (nD a b c d)] = some (.int ((a * d - b * c).natAbs : Int), [.d (nD a b c d)]) := by
  simp (disch := omega) [f_law_area, m_law_area]
end
theorem inN_form {p q s x y : Int} : InN p 0 q s x y ↔ In2 p q s x y :=
  ⟨fun ⟨r, t, e1, e2⟩ => ⟨r, t, e1, by simpa using e2⟩, fun ⟨r, t, e1, e2⟩ => ⟨r, t, e1, by simpa using e2⟩⟩
end G
/-! The program's reduced nets. -/
namespace G
open PySem L2 DL Lat
abbrev tRd : T := t_reduced_2
abbrev mRd : DL.P := l_reduced_1
def muR (env : DL.Env) : Nat := match (env[1]? : Option (Option DL.S)), (env[2]? : Option (Option DL.S)) with
  | some (some (.d (.tuple [.int x, .int y]))), some (some (.d (.tuple [.int z, .int u]))) => (2 * (x * x + y * y + (z * z + u * u)) + (if 0 < x * z + y * u then 1 else 0)).toNat
  | _, _ => 0
theorem rd_body {s0 s3 s4 : Option S} {x y z u : Int} (bx : x.natAbs < 2 ^ 60) (b_y : y.natAbs < 2 ^ 60) (bz : z.natAbs < 2 ^ 60) (bu : u.natAbs < 2 ^ 60) (hA : 0 < x * x + y * y) (hl : ¬ z * z + u * u < x * x + y * y) :
    (near (x * x + y * y) (x * z + y * u) = 0 → ∃ e, mRd [s0, some (.d (v2 x y)), some (.d (v2 z u)), s3, s4] = some (.rt (nD x y z u), s0 :: e)) ∧
    (near (x * x + y * y) (x * z + y * u) ≠ 0 → ∃ t3 t4, mRd [s0, some (.d (v2 x y)), some (.d (v2 z u)), s3, s4] = some (.nx, [s0, some (.d (v2 x y)), some (.d (v2 (z - near (x * x + y * y) (x * z + y * u) * x) (u - near (x * x + y * y) (x * z + y * u) * y))), t3, t4])) := by
  haveI : Sm x 60 := ⟨bx⟩
  haveI : Sm y 60 := ⟨b_y⟩
  haveI : Sm z 60 := ⟨bz⟩
  haveI : Sm u 60 := ⟨bu⟩
  constructor
  · intro h
    unfold near at h
    exact ⟨_, by simp (disch := omega) [l_reduced_1, inner_eq, hl, h]; rfl⟩
  · intro h
    unfold near at h ⊢
    exact ⟨_, _, by simp (disch := omega) [l_reduced_1, inner_eq, hl, h]; exact ⟨rfl, rfl⟩⟩
theorem rd_swap {s0 s3 s4 : Option S} {x y z u : Int} (bx : x.natAbs < 2 ^ 60) (b_y : y.natAbs < 2 ^ 60) (bz : z.natAbs < 2 ^ 60) (bu : u.natAbs < 2 ^ 60) (hA : 0 < z * z + u * u) (hl : z * z + u * u < x * x + y * y) :
    mRd [s0, some (.d (v2 x y)), some (.d (v2 z u)), s3, s4] = mRd [s0, some (.d (v2 z u)), some (.d (v2 x y)), s3, s4] := by
  haveI : Sm x 60 := ⟨bx⟩
  haveI : Sm y 60 := ⟨b_y⟩
  haveI : Sm z 60 := ⟨bz⟩
  haveI : Sm u 60 := ⟨bu⟩
  have hl2 : ¬ x * x + y * y < z * z + u * u := by omega
  simp (disch := omega) [l_reduced_1, inner_eq, hl, hl2]
abbrev big : Int := 2048000000000000
theorem reduced_eq {a b c d : Int} (h : Net a b c d) : ∃ x y z u, f_reduced [.d (nD a b c d)] = some (nD x y z u, [.d (nD a b c d)]) ∧ Red x y z u ∧ (∀ X Y, InN x y z u X Y ↔ InN a b c d X Y) ∧ x.natAbs < 2 ^ 60 ∧ y.natAbs < 2 ^ 60 ∧ z.natAbs < 2 ^ 60 ∧ u.natAbs < 2 ^ 60 := by
  obtain ⟨p, q, s, e, h1, h2, h3, h4, h5, h6⟩ := form_of_eq h
  have h7 : ∀ X Y, InN p 0 q s X Y ↔ InN a b c d X Y := fun X Y => by
    rw [← h4 X Y]
    exact ⟨fun ⟨r, t, e1, e2⟩ => ⟨r, t, e1, by simpa using e2⟩, fun ⟨r, t, e1, e2⟩ => ⟨r, t, e1, by simpa using e2⟩⟩
  have small : ∀ x y : Int, x * x + y * y ≤ big → x.natAbs < 2 ^ 60 ∧ y.natAbs < 2 ^ 60 := fun x y hb => by
    have g1 := le_sq x
    have g2 := le_sq y
    have g3 := sq_nonneg x
    have g4 := sq_nonneg y
    unfold big at hb
    omega
  let J : DL.Env → Int → Int → Int → Int → Prop := fun env x y z u => (∃ s3 s4, env = [some (.d (nD a b c d)), some (.d (v2 x y)), some (.d (v2 z u)), s3, s4]) ∧ (∀ X Y, InN x y z u X Y ↔ InN a b c d X Y) ∧ x * x + y * y ≤ big ∧ z * z + u * u ≤ big
  -- one turn of a sorted pair
  have turn : ∀ (s3 s4 : Option DL.S) (x y z u : Int), (∀ X Y, InN x y z u X Y ↔ InN a b c d X Y) → x * x + y * y ≤ big → z * z + u * u ≤ big → ¬ z * z + u * u < x * x + y * y →
      (∃ e2, mRd [some (.d (nD a b c d)), some (.d (v2 x y)), some (.d (v2 z u)), s3, s4] = some (.nx, e2) ∧ (∃ x' y' z' u', J e2 x' y' z' u') ∧ muR e2 < (2 * (x * x + y * y + (z * z + u * u)) + (if 0 < x * z + y * u then 1 else 0)).toNat) ∨
      (∃ e2, mRd [some (.d (nD a b c d)), some (.d (v2 x y)), some (.d (v2 z u)), s3, s4] = some (.rt (nD x y z u), some (.d (nD a b c d)) :: e2) ∧ Red x y z u) := fun s3 s4 x y z u g1 g2 g3 g4 => by
    have k1 := inN_area g1
    have k2 := h.ne
    have k3 : 0 < x * x + y * y := by
      have n1 := sq_nonneg x
      have n2 := sq_nonneg y
      rcases Int.lt_or_eq_of_le (show 0 ≤ x * x + y * y by omega) with q | q
      · exact q
      · have x0 : x = 0 := by
          by_cases z0 : x = 0
          · exact z0
          · have := sq_pos z0; omega
        have y0 : y = 0 := by
          by_cases z0 : y = 0
          · exact z0
          · have := sq_pos z0; omega
        subst x0; subst y0
        simp at k1
        omega
    obtain ⟨m1, m2⟩ := small x y g2
    obtain ⟨m3, m4⟩ := small z u g3
    obtain ⟨r1, r2⟩ := rd_body (s0 := some (.d (nD a b c d))) (s3 := s3) (s4 := s4) m1 m2 m3 m4 k3 g4
    by_cases hf : near (x * x + y * y) (x * z + y * u) = 0
    · obtain ⟨e2, r3⟩ := r1 hf
      obtain ⟨n1, n2⟩ := near_zero k3 hf
      exact .inr ⟨e2, r3, k3, by omega, n1, by omega⟩
    · obtain ⟨t3, t4, r3⟩ := r2 hf
      have n1 := near_less (C := z * z + u * u) k3 hf
      refine .inl ⟨_, r3, ⟨x, y, _, _, ⟨t3, t4, rfl⟩, fun X Y => inN_step.trans (g1 X Y), g2, ?_⟩, ?_⟩
      · generalize near (x * x + y * y) (x * z + y * u) = f at *
        have n2 : (z - f * x) * (z - f * x) + (u - f * y) * (u - f * y) = z * z + u * u - 2 * f * (x * z + y * u) + f * f * (x * x + y * y) := by grind
        omega
      · generalize near (x * x + y * y) (x * z + y * u) = f at *
        have n2 : (z - f * x) * (z - f * x) + (u - f * y) * (u - f * y) = z * z + u * u - 2 * f * (x * z + y * u) + f * f * (x * x + y * y) := by grind
        have n3 : x * (z - f * x) + y * (u - f * y) = x * z + y * u - f * (x * x + y * y) := by grind
        have n4 := sq_nonneg (z - f * x)
        have n5 := sq_nonneg (u - f * y)
        show (2 * (x * x + y * y + ((z - f * x) * (z - f * x) + (u - f * y) * (u - f * y))) + (if 0 < x * (z - f * x) + y * (u - f * y) then 1 else 0)).toNat < _
        rw [n3]
        generalize (z - f * x) * (z - f * x) = Z at *
        generalize (u - f * y) * (u - f * y) = U at *
        split <;> split <;> omega
  have z1 := Int.mul_le_mul h5 h5 (by omega) (by omega)
  have z2 := Int.mul_le_mul h6 h6 (by omega) (by omega)
  have z3 := Int.mul_le_mul (show q ≤ 32000000 by omega) (show q ≤ 32000000 by omega) (by omega) (by omega)
  have b1 : p * p + 0 * 0 ≤ big := by unfold big; omega
  have b2 : q * q + s * s ≤ big := by unfold big; omega
  have b3 : muR [some (.d (nD a b c d)), some (.d (v2 p 0)), some (.d (v2 q s)), none, none] < fuel := by
    show (2 * (p * p + 0 * 0 + (q * q + s * s)) + (if 0 < p * q + 0 * s then 1 else 0)).toNat < fuel
    have : (10 : Nat) ^ 30 < fuel := by unfold fuel; exact Nat.pow_lt_pow_right (by decide) (by decide)
    split <;> omega
  obtain ⟨o, e', w1, x, y, z, u, e2, rfl, rfl, w2, w3, w4, w5⟩ := while_rule (t := tRd) (m := mRd) (fun env => ∃ x y z u, J env x y z u) muR
    (fun o env => ∃ x y z u e2, o = .rt (nD x y z u) ∧ env = some (.d (nD a b c d)) :: e2 ∧ Red x y z u ∧ (∀ X Y, InN x y z u X Y ↔ InN a b c d X Y) ∧ x * x + y * y ≤ big ∧ z * z + u * u ≤ big)
    (fun env ⟨x, y, z, u, ⟨s3, s4, e⟩, g1, g2, g3⟩ => by
      subst e
      refine .inr ⟨_, rfl, ?_⟩
      by_cases g4 : z * z + u * u < x * x + y * y
      · have gs : ∀ X Y, InN z u x y X Y ↔ InN a b c d X Y := fun X Y => inN_swap.trans (g1 X Y)
        have k3 : 0 < z * z + u * u := by
          have k1 := inN_area gs
          have k2 := h.ne
          have n1 := sq_nonneg z
          have n2 := sq_nonneg u
          rcases Int.lt_or_eq_of_le (show 0 ≤ z * z + u * u by omega) with q | q
          · exact q
          · have x0 : z = 0 := by
              by_cases z0 : z = 0
              · exact z0
              · have := sq_pos z0; omega
            have y0 : u = 0 := by
              by_cases z0 : u = 0
              · exact z0
              · have := sq_pos z0; omega
            subst x0; subst y0
            simp at k1
            omega
        obtain ⟨m1, m2⟩ := small x y g2
        obtain ⟨m3, m4⟩ := small z u g3
        rw [rd_swap m1 m2 m3 m4 k3 g4]
        have em : muR [some (.d (nD a b c d)), some (.d (v2 x y)), some (.d (v2 z u)), s3, s4] = (2 * (z * z + u * u + (x * x + y * y)) + (if 0 < z * x + u * y then 1 else 0)).toNat := by
          show (2 * (x * x + y * y + (z * z + u * u)) + (if 0 < x * z + y * u then 1 else 0)).toNat = _
          rw [Int.mul_comm z x, Int.mul_comm u y, Int.add_comm (x * x + y * y)]
        rcases turn s3 s4 z u x y gs g3 g2 (by omega) with ⟨e2, t1, t2, t3⟩ | ⟨e2, t1, t2⟩
        · exact .inl ⟨e2, t1, t2, by rw [em]; exact t3⟩
        · exact .inr (.inr (.inr ⟨_, _, t1, z, u, x, y, e2, rfl, rfl, t2, gs, g3, g2⟩))
      · rcases turn s3 s4 x y z u g1 g2 g3 g4 with ⟨e2, t1, t2, t3⟩ | ⟨e2, t1, t2⟩
        · exact .inl ⟨e2, t1, t2, t3⟩
        · exact .inr (.inr (.inr ⟨_, _, t1, x, y, z, u, e2, rfl, rfl, t2, g1, g2, g3⟩))) fuel
    [some (.d (nD a b c d)), some (.d (v2 p 0)), some (.d (v2 q s)), none, none] ⟨p, 0, q, s, ⟨none, none, rfl⟩, h7, b1, b2⟩ b3
  obtain ⟨m1, m2⟩ := small x y w4
  obtain ⟨m3, m4⟩ := small z u w5
  refine ⟨x, y, z, u, ?_, w2, w3, m1, m2, m3, m4⟩
  simp (disch := omega) [f_reduced, m_reduced, e, w1]
end G
/-! Answers that are compared. -/
namespace G
open PySem L2 DL Lat
theorem beq_dec (i j : Int) : (i == j) = decide (i = j) := by
  by_cases h : i = j <;> simp [h]
theorem eqv_v2 {x y z w : Int} : PyData.eqv (v2 x y) (v2 z w) = (decide (x = z) && decide (y = w)) := by
  unfold v2
  simp [PyData.eqv, PyData.eqvAll, beq_dec]
theorem eqv_nD {a b c d e f g h : Int} : PyData.eqv (nD a b c d) (nD e f g h) = (decide (a = e) && decide (b = f) && (decide (c = g) && decide (d = h))) := by
  unfold nD v2
  simp [PyData.eqv, PyData.eqvAll, beq_dec, Bool.and_assoc]
theorem ev_neV {x y z w : Int} : aNe (v2 x y) (v2 z w) = some (.bool (!(decide (x = z) && decide (y = w)))) := by
  unfold aNe
  rw [if_pos ⟨by rfl, by rfl⟩, eqv_v2]
theorem ev_neN {a b c d e f g h : Int} : aNe (nD a b c d) (nD e f g h) = some (.bool (!(decide (a = e) && decide (b = f) && (decide (c = g) && decide (d = h))))) := by
  unfold aNe
  rw [if_pos ⟨by rfl, by rfl⟩, eqv_nD]
theorem ev_eqN {a b c d e f g h : Int} : aEq (nD a b c d) (nD e f g h) = some (.bool (decide (a = e) && decide (b = f) && (decide (c = g) && decide (d = h)))) := by
  unfold aEq
  rw [if_pos ⟨by rfl, by rfl⟩, eqv_nD]
theorem same_bool (p : Bool) : f_law_same 4 [.d (.bool p), .d (.bool p)] = some (.bool true, [.d (.bool p), .d (.bool p)]) := by
  cases p <;> simp [f_law_same, m_law_same]
end G
/-! k90: square nets and mirrors. -/
namespace G
open PySem L2 DL Lat
section
variable {a b c d e f g h : Int}
theorem is_square_eq (n1 : Net a b c d) : f_is_square [.d (nD a b c d)] = some (.bool (dotB a b c d (-b) a && dotB a b c d (-d) c), [.d (nD a b c d)]) := by
  haveI : Sm a 12 := ⟨by have := n1.ba; omega⟩
  haveI : Sm b 12 := ⟨by have := n1.bb; omega⟩
  haveI : Sm c 12 := ⟨by have := n1.bc; omega⟩
  haveI : Sm d 12 := ⟨by have := n1.bd; omega⟩
  have q1 := is_dot_eq (x := -b) (y := a) n1 (by decide)
  have q2 := is_dot_eq (x := -d) (y := c) n1 (by decide)
  simp (disch := omega) [f_is_square, m_is_square, ev_comp, ev_compL1, datas, c_is_square_1, q1, q2]
theorem same_dots_eq (n1 : Net a b c d) (n2 : Net e f g h) (ha : (a * d - b * c).natAbs = (e * h - f * g).natAbs) : f_law_same_dots [.d (nD a b c d), .d (nD e f g h)] = some (.bool (dotB e f g h a b && dotB e f g h c d), [.d (nD a b c d), .d (nD e f g h)]) := by
  haveI : Sm a 12 := ⟨by have := n1.ba; omega⟩
  haveI : Sm b 12 := ⟨by have := n1.bb; omega⟩
  haveI : Sm c 12 := ⟨by have := n1.bc; omega⟩
  haveI : Sm d 12 := ⟨by have := n1.bd; omega⟩
  have e1 := law_area_eq n1
  have e2 := law_area_eq n2
  rw [ha] at e1
  have q1 := law_is_dot_eq (x := a) (y := b) n2 (by decide)
  have q2 := law_is_dot_eq (x := c) (y := d) n2 (by decide)
  cases k1 : dotB e f g h a b <;> cases k2 : dotB e f g h c d <;> rw [k1] at q1 <;> rw [k2] at q2 <;> simp (disch := omega) [f_law_same_dots, m_law_same_dots, e1, e2, ev_comp, ev_compL1, datas, t_law_same_dots_2, c_law_same_dots_1, q1, q2]
theorem least_eq (n1 : Net a b c d) : ∃ x y z u, Red x y z u ∧ (∀ X Y, InN x y z u X Y ↔ InN a b c d X Y) ∧ f_law_least [.d (nD a b c d)] = some (.int (x * x + y * y), [.d (nD a b c d)]) := by
  obtain ⟨x, y, z, u, e4, red, heq, bx, b_y, bz, bu⟩ := reduced_eq n1
  haveI : Sm x 60 := ⟨bx⟩
  haveI : Sm y 60 := ⟨b_y⟩
  refine ⟨x, y, z, u, red, heq, ?_⟩
  simp (disch := omega) [f_law_least, m_law_least, e4]
abbrev acS : D := .str (Str.ofString "across")
abbrev asS : D := .str (Str.ofString "aside")
theorem mirrors_eq (n1 : Net a b c d) : f_mirrors [.d (nD a b c d)] = some (.list ((if (dotB a b c d b a && dotB a b c d d c) = true then [acS] else []) ++ if (dotB a b c d (-a) b && dotB a b c d (-c) d) = true then [asS] else []), [.d (nD a b c d)]) := by
  haveI : Sm a 12 := ⟨by have := n1.ba; omega⟩
  haveI : Sm b 12 := ⟨by have := n1.bb; omega⟩
  haveI : Sm c 12 := ⟨by have := n1.bc; omega⟩
  haveI : Sm d 12 := ⟨by have := n1.bd; omega⟩
  have q1 := is_dot_eq (x := b) (y := a) n1 (by decide)
  have q2 := is_dot_eq (x := d) (y := c) n1 (by decide)
  have q3 := is_dot_eq (x := -a) (y := b) n1 (by decide)
  have q4 := is_dot_eq (x := -c) (y := d) n1 (by decide)
  cases k1 : (dotB a b c d b a && dotB a b c d d c) <;> cases k2 : (dotB a b c d (-a) b && dotB a b c d (-c) d) <;>
    simp (disch := omega) [f_mirrors, m_mirrors, ev_comp, ev_compL1, datas, c_mirrors_1, c_mirrors_2, q1, q2, q3, q4, k1, k2]
end
theorem ev_eqS {s t : Str} (h1 : SeqAt.shaped (.str s) = true) (h2 : SeqAt.shaped (.str t) = true) : aEq (.str s) (.str t) = some (.bool (s == t)) := by
  unfold aEq
  rw [if_pos ⟨h1, h2⟩]
  rfl
theorem same_s (n : Nat) (s : Str) (hs : SeqAt.shaped (.str s) = true) : f_law_same (n + 1) [.d (.str s), .d (.str s)] = some (.bool true, [.d (.str s), .d (.str s)]) := by
  simp [f_law_same, m_law_same, aIsi, isiD, tyNm, isiTys, scrD, isFlagD, isNoneD, ev_eqS hs hs]
theorem same_0 : f_law_same 4 [.d (.list []), .d (.list [])] = some (.bool true, [.d (.list []), .d (.list [])]) := by
  simp (disch := omega) [f_law_same, m_law_same, aIsi, isiD, tyNm, isiTys, scrD, isFlagD, isNoneD, DL.upTo]
theorem same_1 (s : Str) (hs : SeqAt.shaped (.str s) = true) : f_law_same 4 [.d (.list [.str s]), .d (.list [.str s])] = some (.bool true, [.d (.list [.str s]), .d (.list [.str s])]) := by
  have h := same_s 2 s hs
  show fnD 4 (m_law_same (f_law_same 3)) _ = _
  generalize f_law_same 3 = F at *
  simp (disch := omega) [m_law_same, l_law_same_2, aIsi, isiD, tyNm, isiTys, scrD, isFlagD, isNoneD, DL.upTo, ev_forL, h]
theorem same_2 (s t : Str) (hs : SeqAt.shaped (.str s) = true) (ht : SeqAt.shaped (.str t) = true) : f_law_same 4 [.d (.list [.str s, .str t]), .d (.list [.str s, .str t])] = some (.bool true, [.d (.list [.str s, .str t]), .d (.list [.str s, .str t])]) := by
  have h := same_s 2 s hs
  have h2 := same_s 2 t ht
  show fnD 4 (m_law_same (f_law_same 3)) _ = _
  generalize f_law_same 3 = F at *
  simp (disch := omega) [m_law_same, l_law_same_2, aIsi, isiD, tyNm, isiTys, scrD, isFlagD, isNoneD, DL.upTo, ev_forL, h, h2]
theorem same_due (p q : Bool) : f_law_same 4 [.d (.list ((if p = true then [acS] else []) ++ if q = true then [asS] else [])), .d (.list ((if p = true then [acS] else []) ++ if q = true then [asS] else []))] = some (.bool true, [.d (.list ((if p = true then [acS] else []) ++ if q = true then [asS] else [])), .d (.list ((if p = true then [acS] else []) ++ if q = true then [asS] else []))]) := by
  cases p <;> cases q
  · exact same_0
  · exact same_1 _ (by decide +kernel)
  · exact same_1 _ (by decide +kernel)
  · exact same_2 _ _ (by decide +kernel) (by decide +kernel)
/-- what one turn of the law has: the turned and mirrored nets -/
theorem Net.turned {a b c d : Int} (h : Net a b c d) : Net (-b) a (-d) c := ⟨by have := h.ne; intro q; apply this; grind, by have := h.bb; omega, h.ba, by have := h.bd; omega, h.bc⟩
theorem Net.across {a b c d : Int} (h : Net a b c d) : Net b a d c := ⟨by have := h.ne; intro q; apply this; grind, h.bb, h.ba, h.bd, h.bc⟩
theorem Net.aside {a b c d : Int} (h : Net a b c d) : Net (-a) b (-c) d := ⟨by have := h.ne; intro q; apply this; grind, by have := h.ba; omega, h.bb, by have := h.bc; omega, h.bd⟩
theorem dets (a b c d : Int) : (-b * c - a * -d).natAbs = (a * d - b * c).natAbs ∧ (b * c - a * d).natAbs = (a * d - b * c).natAbs ∧ (-a * d - b * -c).natAbs = (a * d - b * c).natAbs := by
  have e1 : -b * c - a * -d = a * d - b * c := by grind
  have e2 : -a * d - b * -c = -(a * d - b * c) := by grind
  rw [e1, e2]
  omega
theorem dot_turned {a b c d : Int} (h : Net a b c d) (x y : Int) : dotB (-b) a (-d) c x y = dotB a b c d (-y) x := by
  rw [Bool.eq_iff_iff, dotB_iff h.turned.ne, dotB_iff h.ne, inN_turn']
theorem dot_across {a b c d : Int} (h : Net a b c d) (x y : Int) : dotB b a d c x y = dotB a b c d y x := by
  rw [Bool.eq_iff_iff, dotB_iff h.across.ne, dotB_iff h.ne, inN_across]
theorem dot_aside {a b c d : Int} (h : Net a b c d) (x y : Int) : dotB (-a) b (-c) d x y = dotB a b c d (-x) y := by
  rw [Bool.eq_iff_iff, dotB_iff h.aside.ne, dotB_iff h.ne, inN_aside]
theorem least_turned {a b c d m k : Int} (h1 : Lst (InN a b c d) m) (h2 : Lst (InN (-b) a (-d) c) k) : m = k :=
  Lst.uniq h1 h2 (fun x y q => ⟨-y, x, inN_turn.mpr (by rw [Int.neg_neg]; exact inN_neg q |> fun z => by simpa using inN_neg z), fun z => ⟨z.2, by omega⟩, by grind⟩) (fun x y q => ⟨y, -x, inN_turn.mp q, fun z => ⟨by omega, z.1⟩, by grind⟩)
theorem least_across {a b c d m k : Int} (h1 : Lst (InN a b c d) m) (h2 : Lst (InN b a d c) k) : m = k :=
  Lst.uniq h1 h2 (fun x y q => ⟨y, x, inN_across.mpr q, fun z => ⟨z.2, z.1⟩, by grind⟩) (fun x y q => ⟨y, x, inN_across.mp q, fun z => ⟨z.2, z.1⟩, by grind⟩)
theorem least_aside {a b c d m k : Int} (h1 : Lst (InN a b c d) m) (h2 : Lst (InN (-a) b (-c) d) k) : m = k :=
  Lst.uniq h1 h2 (fun x y q => ⟨-x, y, inN_aside.mpr (by rwa [Int.neg_neg]), fun z => ⟨by omega, z.2⟩, by grind⟩) (fun x y q => ⟨-x, y, inN_aside.mp q, fun z => ⟨by omega, z.2⟩, by grind⟩)
theorem sqr_dotB {a b c d : Int} (h : Net a b c d) : (dotB a b c d (-b) a && dotB a b c d (-d) c) = true ↔ Sqr a b c d := by
  rw [Bool.and_eq_true, dotB_iff h.ne, dotB_iff h.ne, sqr_iff]
theorem acr_dotB {a b c d : Int} (h : Net a b c d) : (dotB a b c d b a && dotB a b c d d c) = true ↔ Acr a b c d := by
  rw [Bool.and_eq_true, dotB_iff h.ne, dotB_iff h.ne, acr_iff]
theorem asi_dotB {a b c d : Int} (h : Net a b c d) : (dotB a b c d (-a) b && dotB a b c d (-c) d) = true ↔ Asi a b c d := by
  rw [Bool.and_eq_true, dotB_iff h.ne, dotB_iff h.ne, asi_iff]
end G
/-! k90: one turn. -/
namespace G
open PySem L2 DL Lat
abbrev Eq9 (ns : List Int) (p : List D) (s2 : Option DL.S) (a b c d : Int) (x y fm s7 s8 s9 s10 s11 s12 : Option DL.S) (r : List (Option DL.S)) : DL.Env :=
  some (.d (scr ns)) :: some (.l .own p) :: s2 :: some (.d (nD a b c d)) :: x :: y :: fm :: s7 :: s8 :: s9 :: s10 :: s11 :: s12 :: r
theorem turn {ns : List Int} {cc : Nat} {p : List D} (hb : Bits ns) (hp : Pool ns cc p) (hc : cc < 2 ^ 50) (s2 s3 s4 s5 s6 s7 s8 s9 s10 s11 s12 : Option DL.S) (r : List (Option DL.S)) :
    ∃ p' u3 u4 u5 u6 u7 u8 u9 u10 u11 u12, l_law_2 (some (.d (scr ns)) :: some (.l .own p) :: s2 :: s3 :: s4 :: s5 :: s6 :: s7 :: s8 :: s9 :: s10 :: s11 :: s12 :: r) =
      some (.nx, some (.d (scr ns)) :: some (.l .own p') :: s2 :: u3 :: some (.d u4) :: some (.d u5) :: u6 :: u7 :: u8 :: u9 :: u10 :: u11 :: u12 :: r) ∧ Pool ns (cc + 20) p' := by
  obtain ⟨p1, e1, hp1⟩ := next_eq hb hp (by omega)
  obtain ⟨fd, p2, e2, m2, hp2⟩ := pick_eq (opts := [.int 3, .int 9]) hb hp1 (by omega) (by decide) (by decide)
  obtain ⟨far, rfl, hf⟩ : ∃ far : Int, fd = .int far ∧ (far = 3 ∨ far = 9) := by
    simp at m2
    rcases m2 with rfl | rfl
    · exact ⟨3, rfl, .inl rfl⟩
    · exact ⟨9, rfl, .inr rfl⟩
  obtain ⟨x, y, c0, d0, p3, e3, n0, n1, n2, n3, n4, hp3⟩ := net_eq hb hp2 (by omega) (far := far) (by omega) (by omega)
  have N1 : Net x y c0 d0 := ⟨n0, by omega, by omega, by omega, by omega⟩
  have bx : x.natAbs ≤ 10 := by omega
  have b_y : y.natAbs ≤ 10 := by omega
  clear n0 n1 n2 n3 n4 hf m2
  obtain ⟨fm, p4, e4, fm0, fm1, hp4⟩ := draw_eq hb hp3 (by omega) (l := 4) (by decide) (by decide)
  haveI : Sm x 12 := ⟨by omega⟩
  haveI : Sm y 12 := ⟨by omega⟩
  have part : ∃ a b c d, Net a b c d ∧
      (pIf (tAndD (tB (eOp2 aEq (.p 6) (.e (eK (.int 0))))) (tB (eOp2 aNe (.e (eOp aTup (allE [(eV 4), (eV 5)]))) (.e (eOp aTup (allE [(eK (.int 0)), (eK (.int 0))])))))) (pSet (.v 3) (eOp aTup (allE [(eOp aTup (allE [(eV 4), (eV 5)])), (eOp aTup (allE [(eOp1 aNeg (.p 5)), (eV 4)]))]))) (pIf (tAndD (tB (eOp2 aEq (.p 6) (.e (eK (.int 1))))) (tB (eOp2 aNe (.e (eOp2 aMulI (.p 4) (.p 4))) (.e (eOp2 aMulI (.p 5) (.p 5)))))) (pSet (.v 3) (eOp aTup (allE [(eOp aTup (allE [(eV 4), (eV 5)])), (eOp aTup (allE [(eV 5), (eV 4)]))]))) pSkip))
        (Eq9 ns p4 s2 x y c0 d0 (some (.d (.int x))) (some (.d (.int y))) (some (.d (.int fm))) s7 s8 s9 s10 s11 s12 r) = some (.nx, Eq9 ns p4 s2 a b c d (some (.d (.int x))) (some (.d (.int y))) (some (.d (.int fm))) s7 s8 s9 s10 s11 s12 r) := by
    have hx0 : ¬ (x = 0 ∧ y = 0) := by
      rintro ⟨rfl, rfl⟩
      exact N1.ne (by simp)
    have hx0' : (decide (x = 0) && decide (y = 0)) = false := by simpa using hx0
    by_cases h0 : fm = 0
    · subst h0
      refine ⟨x, y, -y, x, ⟨?_, by omega, by omega, by omega, by omega⟩, ?_⟩
      · have h1 := sq_nonneg x
        have h2 := sq_nonneg y
        have e : x * x - y * -y = x * x + y * y := by grind
        rw [e]
        by_cases x0 : x = 0
        · have := sq_pos (show y ≠ 0 from fun q => hx0 ⟨x0, q⟩); omega
        · have := sq_pos x0; omega
      · simp (disch := omega) [ev_neV, hx0']
    · by_cases h1 : fm = 1
      · subst h1
        by_cases h2 : x * x = y * y
        · exact ⟨x, y, c0, d0, N1, by simp (disch := omega) [h2]⟩
        · exact ⟨x, y, y, x, ⟨by omega, by omega, by omega, by omega, by omega⟩, by simp (disch := omega) [h2]⟩
      · exact ⟨x, y, c0, d0, N1, by simp (disch := omega) [h0, h1]⟩
  obtain ⟨a, b, c, d, N, q4⟩ := part
  clear bx b_y
  have NT := N.turned
  have NA := N.across
  have NS := N.aside
  obtain ⟨dt1, dt2, dt3⟩ := dets a b c d
  have eT := same_dots_eq N NT dt1.symm
  have eA := same_dots_eq N NA dt2.symm
  have eS := same_dots_eq N NS dt3.symm
  rw [dot_turned N, dot_turned N] at eT
  rw [dot_across N, dot_across N] at eA
  rw [dot_aside N, dot_aside N] at eS
  have eQ := is_square_eq N
  have eM := mirrors_eq N
  have s1 := sqr_dotB N
  have s2' := acr_dotB N
  have s3' := asi_dotB N
  obtain ⟨x1, y1, z1, u1, r1, he1, el1⟩ := least_eq N
  obtain ⟨x2, y2, z2, u2, r2, he2, el2⟩ := least_eq NT
  obtain ⟨x3, y3, z3, u3, r3, he3, el3⟩ := least_eq NA
  obtain ⟨x4, y4, z4, u4, r4, he4, el4⟩ := least_eq NS
  rw [← least_turned (red_lst r1 he1) (red_lst r2 he2)] at el2
  rw [← least_across (red_lst r1 he1) (red_lst r3 he3)] at el3
  rw [← least_aside (red_lst r1 he1) (red_lst r4 he4)] at el4
  have a1 := area_eq N
  have a2 := area_eq NT
  have a3 := area_eq NA
  have a4 := area_eq NS
  rw [dt1] at a2
  rw [dt2] at a3
  rw [dt3] at a4
  have sqa : (dotB a b c d (-b) a && dotB a b c d (-d) c) = true → x1 * x1 + y1 * y1 = ((a * d - b * c).natAbs : Int) := fun q => sqr_area (s1.mp q) r1 he1 N.ne
  have mir : (dotB a b c d (-b) a && dotB a b c d (-d) c) = true → (dotB a b c d b a && dotB a b c d d c) = (dotB a b c d (-a) b && dotB a b c d (-c) d) := fun q => by
    rw [Bool.eq_iff_iff, s2', s3']
    exact sqr_mirrors (s1.mp q)
  clear r1 r2 r3 r4 he1 he2 he3 he4 s1 s2' s3' dt1 dt2 dt3
  generalize hsq : (dotB a b c d (-b) a && dotB a b c d (-d) c) = sq at *
  generalize hac : (dotB a b c d b a && dotB a b c d d c) = ac at *
  generalize has : (dotB a b c d (-a) b && dotB a b c d (-c) d) = si at *
  generalize hL : x1 * x1 + y1 * y1 = LL at *
  generalize hR : ((a * d - b * c).natAbs : Int) = RR at *
  have eSq := same_bool sq
  have eDue := same_due ac si
  have dueE : (if ac = true then [acS] else []) ++ (if si = true then [asS] else []) = (if ac = true then [acS] else []) ++ if si = true then [asS] else [] := rfl
  refine ⟨p4, some (.d (nD a b c d)), .int x, .int y, some (.d (.int fm)), some (.d (nD (-b) a (-d) c)), some (.d (nD b a d c)), some (.d (nD (-a) b (-c) d)), some (.d (.bool sq)), some (.d (.list ((if ac = true then [acS] else []) ++ if si = true then [asS] else []))), some (.d (nD (-a) b (-c) d)), ?_, hp4.mono (by omega)⟩
  unfold l_law_2
  refine (seq_nx (env1 := some (.d (scr ns)) :: some (.l .own p1) :: s2 :: s3 :: s4 :: s5 :: s6 :: s7 :: s8 :: s9 :: s10 :: s11 :: s12 :: r) (by simp [e1])).trans ?_
  refine (seq_nx (env1 := some (.d (scr ns)) :: some (.l .own p3) :: s2 :: some (.d (nD x y c0 d0)) :: s4 :: s5 :: s6 :: s7 :: s8 :: s9 :: s10 :: s11 :: s12 :: r) (by simp [e2, e3])).trans ?_
  refine (seq_nx (env1 := Eq9 ns p3 s2 x y c0 d0 (some (.d (.int x))) (some (.d (.int y))) s6 s7 s8 s9 s10 s11 s12 r) (by simp)).trans ?_
  refine (seq_nx (env1 := Eq9 ns p4 s2 x y c0 d0 (some (.d (.int x))) (some (.d (.int y))) (some (.d (.int fm))) s7 s8 s9 s10 s11 s12 r) (by simp [e4])).trans ?_
  refine (seq_nx q4).trans ?_
  refine (seq_nx (env1 := Eq9 ns p4 s2 a b c d (some (.d (.int x))) (some (.d (.int y))) (some (.d (.int fm))) (some (.d (nD (-b) a (-d) c))) s8 s9 s10 s11 s12 r) (by simp)).trans ?_
  refine (seq_nx (env1 := Eq9 ns p4 s2 a b c d (some (.d (.int x))) (some (.d (.int y))) (some (.d (.int fm))) (some (.d (nD (-b) a (-d) c))) (some (.d (nD b a d c))) s9 s10 s11 s12 r) (by simp)).trans ?_
  refine (seq_nx (env1 := Eq9 ns p4 s2 a b c d (some (.d (.int x))) (some (.d (.int y))) (some (.d (.int fm))) (some (.d (nD (-b) a (-d) c))) (some (.d (nD b a d c))) (some (.d (nD (-a) b (-c) d))) s10 s11 s12 r) (by simp)).trans ?_
  refine (seq_nx (env1 := Eq9 ns p4 s2 a b c d (some (.d (.int x))) (some (.d (.int y))) (some (.d (.int fm))) (some (.d (nD (-b) a (-d) c))) (some (.d (nD b a d c))) (some (.d (nD (-a) b (-c) d))) (some (.d (.bool sq))) s11 s12 r) (by simp [eT])).trans ?_
  refine (seq_nx (env1 := Eq9 ns p4 s2 a b c d (some (.d (.int x))) (some (.d (.int y))) (some (.d (.int fm))) (some (.d (nD (-b) a (-d) c))) (some (.d (nD b a d c))) (some (.d (nD (-a) b (-c) d))) (some (.d (.bool sq))) s11 s12 r) (by simp [eQ, eSq])).trans ?_
  refine (seq_nx (env1 := Eq9 ns p4 s2 a b c d (some (.d (.int x))) (some (.d (.int y))) (some (.d (.int fm))) (some (.d (nD (-b) a (-d) c))) (some (.d (nD b a d c))) (some (.d (nD (-a) b (-c) d))) (some (.d (.bool sq))) (some (.d (.list ((if ac = true then [acS] else []) ++ if si = true then [asS] else [])))) s12 r) (by
    clear eM eDue mir sqa hac has
    have sz : (1 : Int) ≤ (sizeLine : Int) := by have := sizeLine_big; omega
    have sz' : 1 ≤ sizeLine := by have := sizeLine_big; omega
    have q00 : aAdd (.list []) (.list []) = some (.list []) := ev_addLL (by decide)
    have q10 : aAdd (.list [acS]) (.list []) = some (.list [acS]) := ev_addLL (by simp)
    have q01 : aAdd (.list []) (.list [asS]) = some (.list [asS]) := ev_addLL (by simp)
    have q11 : aAdd (.list [acS]) (.list [asS]) = some (.list [acS, asS]) := ev_addLL (by simp)
    cases ac <;> cases si <;> simp (disch := omega) [eA, eS, sz, sz', q00, q10, q01, q11])).trans ?_
  refine (seq_nx (env1 := Eq9 ns p4 s2 a b c d (some (.d (.int x))) (some (.d (.int y))) (some (.d (.int fm))) (some (.d (nD (-b) a (-d) c))) (some (.d (nD b a d c))) (some (.d (nD (-a) b (-c) d))) (some (.d (.bool sq))) (some (.d (.list ((if ac = true then [acS] else []) ++ if si = true then [asS] else [])))) s12 r) (by
    generalize (if ac = true then [acS] else []) ++ (if si = true then [asS] else []) = due at *
    simp [eM, eDue])).trans ?_
  generalize hdue : (if ac = true then [acS] else []) ++ (if si = true then [asS] else []) = due at *
  refine (seq_nx (env1 := Eq9 ns p4 s2 a b c d (some (.d (.int x))) (some (.d (.int y))) (some (.d (.int fm))) (some (.d (nD (-b) a (-d) c))) (some (.d (nD b a d c))) (some (.d (nD (-a) b (-c) d))) (some (.d (.bool sq))) (some (.d (.list due))) (some (.d (nD (-a) b (-c) d))) r) (by
    simp [ev_forL, l_law_1, a1, a2, a3, a4, el1, el2, el3, el4])).trans ?_
  cases sq with
  | false => simp [truD]
  | true =>
    have k1 := sqa rfl
    have k2 := mir rfl
    have k3 : ¬ ((due.length : Int) = 1) := by
      rw [← hdue, k2]
      cases si <;> decide
    simp [truD, el1, a1, k1, k3]
end G
/-! k90: all nets of an area. -/
namespace G
open PySem L2 DL Lat
theorem upTo_eq (n : Nat) : ∀ lo : Int, DL.upTo lo n = (List.range n).map fun i : Nat => PyData.int (lo + i) := by
  induction n with
  | zero => intro lo; rfl
  | succ n ih =>
    intro lo
    rw [List.range_succ_eq_map, List.map_cons, List.map_map]
    show PyData.int lo :: DL.upTo (lo + 1) n = _
    rw [ih]
    congr 1
    · simp
    · refine List.map_congr_left fun i _ => ?_
      show PyData.int (lo + 1 + i) = PyData.int (lo + ((i + 1 : Nat) : Int))
      congr 1
      omega
theorem upTo_cons {lo : Int} {y cn : Nat} {d : D} {ds : List D} (h : d :: ds = DL.upTo (lo + y) (cn - y)) : y < cn ∧ d = .int (lo + y) ∧ ds = DL.upTo (lo + ((y + 1 : Nat) : Int)) (cn - (y + 1)) := by
  have hy1 : y < cn := by
    by_cases q : y < cn
    · exact q
    · have : cn - y = 0 := by omega
      rw [this] at h; cases h
  have e1 : cn - y = (cn - (y + 1)) + 1 := by omega
  rw [e1] at h
  have h2 : d :: ds = PyData.int (lo + y) :: DL.upTo (lo + y + 1) (cn - (y + 1)) := h
  obtain ⟨h3, h4⟩ := List.cons.inj h2
  refine ⟨hy1, h3, ?_⟩
  rw [h4]
  congr 1
  omega
theorem upTo_nil {lo : Int} {y cn : Nat} (hy : y ≤ cn) (h : [] = DL.upTo lo (cn - y)) : y = cn := by
  by_cases q : y < cn
  · have : cn - y = (cn - (y + 1)) + 1 := by omega
    rw [this] at h; cases h
  · omega
abbrev toD (t : Tr) : D := nD t.1 0 t.2.1 t.2.2
theorem alike_toD (s t : Tr) : PySem.W.alike (toD s) (toD t) = true := rfl
theorem le_toD (s t : Tr) : dLe (toD s) (toD t) = (if s.1 = t.1 then (if s.2.1 = t.2.1 ∧ s.2.2 = t.2.2 then true else !decide (t.2.1 < s.2.1 ∨ (t.2.1 = s.2.1 ∧ t.2.2 < s.2.2))) else !decide (t.1 < s.1)) := by
  show (!PySem.W.dataLt (toD t) (toD s)) = _
  rw [PySem.W.dataLt_pair rfl rfl, eqv_v2, eqv_v2, PySem.W.dataLt_ii, PySem.W.dataLt_ii]
  by_cases h1 : s.1 = t.1
  · by_cases h2 : s.2.1 = t.2.1 ∧ s.2.2 = t.2.2
    · simp [h1, h2]
    · have : ¬ (t.2.1 = s.2.1 ∧ t.2.2 = s.2.2) := fun q => h2 ⟨q.1.symm, q.2.symm⟩
      have e : (decide (t.2.1 = s.2.1) && decide (t.2.2 = s.2.2)) = false := by simpa using this
      rw [if_pos h1, if_neg h2, e]
      simp [h1]
  · have : ¬ t.1 = s.1 := fun q => h1 q.symm
    simp [h1, this]
theorem le_of_lt {s t : Tr} (h : ltT s t) : dLe (toD s) (toD t) = true := by
  rw [le_toD]
  rcases h with h | ⟨h1, h2⟩
  · rw [if_neg (by omega)]; simp; omega
  · rw [if_pos h1, if_neg (by omega)]; simp; omega
theorem le_anti {s t : Tr} (h1 : dLe (toD s) (toD t) = true) (h2 : dLe (toD t) (toD s) = true) : s = t := by
  obtain ⟨a, b, c⟩ := s
  obtain ⟨p, q, r⟩ := t
  rw [le_toD] at h1 h2
  simp only at h1 h2
  by_cases e : a = p
  · subst e
    rw [if_pos rfl] at h1 h2
    by_cases e2 : b = q ∧ c = r
    · obtain ⟨rfl, rfl⟩ := e2; rfl
    · rw [if_neg e2] at h1
      rw [if_neg (fun z => e2 ⟨z.1.symm, z.2.symm⟩)] at h2
      simp at h1 h2
      exfalso
      apply e2
      omega
  · rw [if_neg e] at h1
    rw [if_neg (fun z => e z.symm)] at h2
    simp at h1 h2
    omega
theorem dLe_total : PySem.W.TotalLe dLe := PySem.W.sortLe_total _ _ _
theorem lay_map (l : List Tr) : PyData.canLayAll0 (l.map toD) = true := by
  induction l with
  | nil => rfl
  | cons t l ih => show (true && PyData.canLayAll0 (l.map toD)) = true; rw [ih]; rfl
theorem shaped_map (l : List Tr) : SeqAt.shaped (.list (l.map toD)) = true := by
  refine Bool.and_eq_true_iff.mpr ⟨lay_map l, decide_eq_true ?_⟩
  have : PyData.depthAll (l.map toD) ≤ 2 := by
    induction l with
    | nil => exact Nat.zero_le _
    | cons t l ih =>
      show max (toD t).depth (PyData.depthAll (l.map toD)) ≤ 2
      exact Nat.max_le.mpr ⟨by show (2 : Nat) ≤ 2; decide, ih⟩
  show PyData.depthAll (l.map toD) + 1 ≤ 64
  omega
theorem sorted_map (l : List Tr) : aSorted [.list (l.map toD)] = some (.list ((l.map toD).mergeSort dLe)) := by
  refine if_pos ⟨?_, ?_, ?_, ?_⟩
  · refine List.all_eq_true.mpr fun x hx => List.all_eq_true.mpr fun y hy => ?_
    obtain ⟨s, _, rfl⟩ := List.mem_map.mp hx
    obtain ⟨t, _, rfl⟩ := List.mem_map.mp hy
    exact alike_toD s t
  · rw [Bool.or_eq_true]
    right
    refine List.all_eq_true.mpr fun x hx => ?_
    obtain ⟨s, _, rfl⟩ := List.mem_map.mp hx
    rfl
  · refine List.all_eq_true.mpr fun x hx => ?_
    obtain ⟨s, _, rfl⟩ := List.mem_map.mp hx
    exact decide_eq_true (show (2 : Nat) ≤ 60 by decide)
  · refine List.all_eq_true.mpr fun x hx => ?_
    obtain ⟨s, _, rfl⟩ := List.mem_map.mp hx
    rfl
theorem fl_sorted (n : Nat) : ((fl n).map toD).Pairwise (fun a b => dLe a b = true) := List.pairwise_map.mpr ((fl_pw n).imp fun h => le_of_lt h)
theorem sorted_perm {n : Nat} {l : List Tr} (h : l.Perm (fl n)) : aSorted [.list (l.map toD)] = some (.list ((fl n).map toD)) := by
  rw [sorted_map]
  congr 2
  refine List.Perm.eq_of_pairwise (le := fun a b => dLe a b = true) (fun a b ha hb h1 h2 => ?_) (PySem.W.sort_pairwise dLe_total _) (fl_sorted n) ((List.mergeSort_perm _ _).trans (h.map toD))
  obtain ⟨t, _, rfl⟩ := List.mem_map.mp hb
  obtain ⟨s, _, rfl⟩ := List.mem_map.mp (List.mem_mergeSort.mp ha)
  rw [le_anti h1 h2]
/-- one area's forms with one width -/
theorem nets_row {n a : Nat} {xs : List D} {s3 : Option DL.S} (hn : n ≤ 30) (ha : 0 < a) (han : a ≤ 30) (hl : xs.length ≤ 1000) (h3 : dat s3 = true) :
    l_nets_of_2 [some (.d (.int n)), some (.l .own xs), some (.d (.int a)), s3] = some (.nx, [some (.d (.int n)), some (.l .own (xs ++ (rowF n a).map toD)), some (.d (.int a)), s3]) := by
  haveI : Sm (n : Int) 5 := ⟨by omega⟩
  haveI : Sm (a : Int) 5 := ⟨by omega⟩
  have ha' : (0 : Int) < a := by omega
  unfold rowF
  by_cases hm : n % a = 0
  · have hm' : (n : Int) % a = 0 := by omega
    have hcomp : eComp (iOp rng1 [(.p 2)]) (.v 3) [3] tTrue c_nets_of_1 [some (.d (.int n)), some (.l .own xs), some (.d (.int a)), s3] = some (.list ((List.range a).map fun b : Nat => toD ((a : Int), (b : Int), ((n / a : Nat) : Int))), [some (.d (.int n)), some (.l .own xs), some (.d (.int a)), s3]) := by
      have h := comp_pure (it := iOp rng1 [(.p 2)]) (i := 3) (t := tTrue) (m := c_nets_of_1) (env := [some (.d (.int n)), some (.l .own xs), some (.d (.int a)), s3]) (ds := DL.upTo 0 a) (P := fun _ => true)
        (f := fun d => match d with
          | .int b => nD a 0 b ((n / a : Nat) : Int)
          | d => d) (by simp (disch := omega)) (by simp) (by
            cases s3 with
            | none => rfl
            | some q => cases q <;> first | rfl | cases h3) (by rw [upTo_length]; exact Nat.le_trans (show a ≤ 1000000 by omega) sizeLine_big) (fun d _ => by simp) (fun d hd _ => by
            obtain ⟨b, rfl, b0, b1⟩ := upTo_mem hd
            simp (disch := omega) [c_nets_of_1])
      rw [h]
      congr 3
      rw [List.filter_eq_self.mpr (fun _ _ => rfl), upTo_eq, List.map_map]
      refine List.map_congr_left fun i _ => ?_
      show nD a 0 (0 + (i : Int)) _ = _
      rw [Int.zero_add]
    have hz : xs.length + a ≤ sizeLine := Nat.le_trans (show xs.length + a ≤ 1000000 by omega) sizeLine_big
    rw [if_pos hm]
    simp (disch := omega) [l_nets_of_2, hcomp, hm', hz]
  · have hm' : ¬ (n : Int) % a = 0 := by omega
    rw [if_neg hm]
    simp (disch := omega) [l_nets_of_2, hm']
theorem nets_of_eq {n : Nat} (hn : n ≤ 30) : f_nets_of [.d (.int n)] = some (.list ((fl n).map toD), [.d (.int n)]) := by
  have hlen : ∀ i, ((List.range i).flatMap fun i => rowF n (i + 1)).length ≤ i * 31 ∨ 30 < i := fun i => by
    induction i with
    | zero => left; simp
    | succ i ih =>
      rw [List.range_succ, List.flatMap_append, List.length_append]
      simp only [List.flatMap_cons, List.flatMap_nil, List.append_nil]
      by_cases h : 30 < i + 1
      · exact .inr h
      · left
        rcases ih with ih | ih
        · have : (rowF n (i + 1)).length ≤ 31 := by
            unfold rowF
            split
            · rw [List.length_map, List.length_range]; omega
            · simp
          omega
        · omega
  obtain ⟨e', w, i, s2, hi, h2, rfl⟩ := for_all (p := .v 2) (body := l_nets_of_2) (fun ds env => ∃ (i : Nat) (s2 : Option DL.S), i ≤ n ∧ ds = DL.upTo (1 + (i : Int)) (n - i) ∧
      env = [some (.d (.int n)), some (.l .own (((List.range i).flatMap fun i => rowF n (i + 1)).map toD)), s2, none])
    (fun d ds env hi => by
      obtain ⟨i, s2, hi1, h2, rfl⟩ := hi
      obtain ⟨hy, rfl, h5⟩ := upTo_cons h2
      have e : (1 + (i : Int)) = ((i + 1 : Nat) : Int) := by omega
      rw [e]
      refine ⟨[some (.d (.int n)), some (.l .own (((List.range i).flatMap fun i => rowF n (i + 1)).map toD)), some (.d (.int ((i + 1 : Nat) : Int))), none], by simp, _, .inl (nets_row hn (by omega) (by omega) (by
        rw [List.length_map]
        rcases hlen i with h | h <;> omega) rfl), i + 1, some (.d (.int ((i + 1 : Nat) : Int))), by omega, h5, ?_⟩
      rw [List.range_succ, List.flatMap_append, List.map_append]
      simp only [List.flatMap_cons, List.flatMap_nil, List.append_nil])
    (DL.upTo 1 n) [some (.d (.int n)), some (.l .own []), none, none] ⟨0, none, by omega, rfl, rfl⟩
  have := upTo_nil hi h2
  subst this
  have hs := sorted_perm (List.Perm.refl (fl i))
  have e2 : ((i : Int) + 1 - 1).toNat = i := by omega
  have w' : forL (.v 2) l_nets_of_2 (DL.upTo 1 i) [some (.d (.int i)), some (.l .own []), none, none] = some (.nx, [some (.d (.int i)), some (.l .own ((fl i).map toD)), s2, none]) := w
  generalize hfl : (fl i).map toD = L at *
  simp (disch := omega) [f_nets_of, m_nets_of, e2, w', hs]
end G
/-! k90: the law. -/
namespace G
open PySem L2 DL Lat
theorem fl_len (n : Nat) (h : n < 31) : (fl n).length ≤ 1000 := by
  revert n
  decide +kernel
/-- a form of an area up to 30 -/
theorem tr_net {n : Nat} (hn : n ≤ 30) (hn0 : 0 < n) {t : Tr} (ht : t ∈ fl n) : Net t.1 0 t.2.1 t.2.2 ∧ 0 < t.1 ∧ 0 ≤ t.2.1 ∧ t.2.1 < t.1 ∧ 0 < t.2.2 ∧ t.1 * t.2.2 = n ∧ t.1 ≤ 30 ∧ t.2.2 ≤ 30 := by
  obtain ⟨a, b, c⟩ := t
  obtain ⟨h1, h2, h3, h4⟩ := (mem_fl hn0).mp ht
  have hc : 0 < c := by
    by_cases q : 0 < c
    · exact q
    · have := Int.mul_nonpos_of_nonneg_of_nonpos (show 0 ≤ a by omega) (show c ≤ 0 by omega); omega
  have h5 : a * 1 ≤ a * c := Int.mul_le_mul_of_nonneg_left (by omega) (by omega)
  have h6 : 1 * c ≤ a * c := Int.mul_le_mul_of_nonneg_right (by omega) (by omega)
  refine ⟨⟨?_, ?_, ?_, ?_, ?_⟩, h1, h2, h3, hc, h4, ?_, ?_⟩ <;> first | omega | (simp only; omega)
theorem sq_tr {n : Nat} (hn : n ≤ 30) (hn0 : 0 < n) {t : Tr} (ht : t ∈ fl n) : f_is_square [.d (toD t)] = some (.bool (sqF t), [.d (toD t)]) := by
  have h := is_square_eq (tr_net hn hn0 ht).1
  rw [h]
  congr 3
theorem sqF_iff {n : Nat} (hn : n ≤ 30) (hn0 : 0 < n) {t : Tr} (ht : t ∈ fl n) : sqF t = true ↔ Sqr t.1 0 t.2.1 t.2.2 := by
  rw [← sqr_dotB (tr_net hn hn0 ht).1]
  unfold dotB sqF
  simp
def sqD (d : D) : Bool := match f_is_square [.d d] with
  | some (.bool b, _) => b
  | _ => false
def movD (d : D) : D := match d with
  | .tuple [.tuple [.int a, .int z], .tuple [.int b, .int c]] => (match f_form_of [.d (nD 0 a (-c) b)] with
    | some (r, _) => r
    | none => .none)
  | _ => .none
/-- the turned form -/
def Tn (t r : Tr) : Prop := f_form_of [.d (nD 0 t.1 (-t.2.2) t.2.1)] = some (toD r, [.d (nD 0 t.1 (-t.2.2) t.2.1)]) ∧ 0 < r.1 ∧ 0 < r.2.2 ∧ 0 ≤ r.2.1 ∧ r.2.1 < r.1 ∧ ∀ x y, In2 r.1 r.2.1 r.2.2 x y ↔ InN 0 t.1 (-t.2.2) t.2.1 x y
theorem tn_ex {n : Nat} (hn : n ≤ 30) (hn0 : 0 < n) {t : Tr} (ht : t ∈ fl n) : ∃ r, Tn t r := by
  obtain ⟨N, h1, h2, h3, h4, h5, h6, h7⟩ := tr_net hn hn0 ht
  have N2 : Net 0 t.1 (-t.2.2) t.2.1 := by
    have := N.turned
    rwa [Int.neg_zero] at this
  obtain ⟨p, q, s, e, k1, k2, k3, k4, k5, k6⟩ := form_of_eq N2
  exact ⟨(p, q, s), e, k1, k2, k3.1, k3.2, k4⟩
theorem inN_tn {a b c x y : Int} : InN 0 a (-c) b x y ↔ InN a 0 b c (-y) x := by
  have := inN_turn' (a := a) (b := 0) (c := b) (d := c) (x := x) (y := y)
  rwa [Int.neg_zero] at this
theorem in2_inN {a b c x y : Int} : InN a 0 b c x y ↔ In2 a b c x y := inN_form
theorem tn_mem {n : Nat} (hn : n ≤ 30) (hn0 : 0 < n) {t r : Tr} (ht : t ∈ fl n) (h : Tn t r) : r ∈ fl n := by
  obtain ⟨N, h1, h2, h3, h4, h5, h6, h7⟩ := tr_net hn hn0 ht
  obtain ⟨_, k1, k2, k3, k4, k5⟩ := h
  have ha := form_area k5
  refine (mem_fl hn0 (p := r.1) (q := r.2.1) (s := r.2.2)).mpr ⟨k1, k3, k4, ?_⟩
  have e : 0 * t.2.1 - t.1 * -t.2.2 = n := by rw [← h5]; grind
  rw [e] at ha
  have := Int.mul_pos k1 k2
  omega
theorem tn_inj {n : Nat} (hn : n ≤ 30) (hn0 : 0 < n) {s t r : Tr} (hs : s ∈ fl n) (ht : t ∈ fl n) (h1 : Tn s r) (h2 : Tn t r) : s = t := by
  obtain ⟨_, a1, a2, a3, a4, _, _, _⟩ := tr_net hn hn0 hs
  obtain ⟨_, b1, b2, b3, b4, _, _, _⟩ := tr_net hn hn0 ht
  have key : ∀ x y, In2 s.1 s.2.1 s.2.2 x y ↔ In2 t.1 t.2.1 t.2.2 x y := fun x y => by
    have q1 := (h1.2.2.2.2.2 y (-x)).trans inN_tn
    have q2 := (h2.2.2.2.2.2 y (-x)).trans inN_tn
    rw [Int.neg_neg] at q1 q2
    rw [← in2_inN, ← in2_inN, ← q1, ← q2]
  obtain ⟨e1, e2, e3⟩ := form_uniq a1 a4 a2 a3 b1 b4 b2 b3 key
  exact Prod.ext e1 (Prod.ext e2 e3)
theorem tn_self {n : Nat} (hn : n ≤ 30) (hn0 : 0 < n) {t r : Tr} (ht : t ∈ fl n) (h : Tn t r) : r = t ↔ sqF t = true := by
  rw [sqF_iff hn hn0 ht]
  obtain ⟨_, a1, a2, a3, a4, _, _, _⟩ := tr_net hn hn0 ht
  obtain ⟨_, k1, k2, k3, k4, k5⟩ := h
  constructor
  · rintro rfl x y hx
    have := (k5 x y).trans inN_tn
    rw [← in2_inN] at this
    exact this.mp hx
  · intro hq
    have key : ∀ x y, In2 r.1 r.2.1 r.2.2 x y ↔ In2 t.1 t.2.1 t.2.2 x y := fun x y => by
      rw [k5, inN_tn, ← in2_inN]
      constructor
      · intro q
        have := hq _ _ (hq _ _ (hq _ _ q))
        simpa only [Int.neg_neg] using this
      · intro q
        exact hq _ _ q
    obtain ⟨e1, e2, e3⟩ := form_uniq k1 k2 k3 k4 a1 a4 a2 a3 key
    exact Prod.ext e1 (Prod.ext e2 e3)
theorem range_get {α : Type} (l : List α) (p : α → Bool) (P : D → Bool) (hP : ∀ (i : Nat) (h : i < l.length), P (.int (i : Int)) = p l[i]) : ((DL.upTo 0 l.length).filter P).length = (l.filter p).length := by
  have key : ∀ (k : Nat) (m : List α), (∀ (i : Nat) (h : i < m.length), P (.int ((k + i : Nat) : Int)) = p m[i]) → ((DL.upTo (k : Int) m.length).filter P).length = (m.filter p).length := by
    intro k m
    induction m generalizing k with
    | nil => intro _; rfl
    | cons x m ih =>
      intro h
      have h0 := h 0 (by simp)
      have hs := ih (k + 1) (fun i hi => by
        have := h (i + 1) (by simp; omega)
        rw [show k + 1 + i = k + (i + 1) by omega]
        simpa using this)
      have e : ((k + 1 : Nat) : Int) = (k : Int) + 1 := by omega
      rw [e] at hs
      show ((PyData.int (k : Int) :: DL.upTo ((k : Int) + 1) m.length).filter P).length = _
      rw [List.filter_cons, List.filter_cons]
      have h0' : P (.int (k : Int)) = p x := by simpa using h0
      rw [h0']
      cases p x with
      | true => simp only [if_true, List.length_cons, hs]
      | false => simpa using hs
  exact key 0 l (fun i hi => by simpa using hP i hi)
abbrev Ez (ns : List Int) (p : List D) (s2 s3 s4 s5 s6 s7 s8 s9 s10 s11 s12 : Option DL.S) (r : List (Option DL.S)) : DL.Env :=
  some (.d (scr ns)) :: some (.l .own p) :: s2 :: s3 :: s4 :: s5 :: s6 :: s7 :: s8 :: s9 :: s10 :: s11 :: s12 :: r
theorem inner {ns : List Int} {p : List D} {s2 s3 s6 s7 s8 s9 s10 s11 s12 s14 s15 s16 s18 s19 : Option DL.S} {x n : Int} (hn : n.natAbs ≤ 30) (hx : x.natAbs ≤ 31) (k : Nat) : ∀ (lo m : Int) (s5 : Option DL.S), lo.natAbs + k ≤ 100 →
    ∃ u5, forL (.v 5) l_law_8 (DL.upTo lo k) (Ez ns p s2 s3 (some (.d (.int x))) s5 s6 s7 s8 s9 s10 s11 s12 [some (.d (.int n)), s14, s15, s16, some (.d (.int m)), s18, s19]) =
      some (.nx, Ez ns p s2 s3 (some (.d (.int x))) u5 s6 s7 s8 s9 s10 s11 s12 [some (.d (.int n)), s14, s15, s16, some (.d (.int (m + isum (fun y => onC n x y) lo k))), s18, s19]) := by
  haveI : Sm n 5 := ⟨by omega⟩
  haveI : Sm x 5 := ⟨by omega⟩
  induction k with
  | zero => intro lo m s5 _; exact ⟨s5, by simp [DL.upTo, isum]⟩
  | succ k ih =>
    intro lo m s5 hl
    haveI : Sm lo 7 := ⟨by omega⟩
    obtain ⟨u5, h⟩ := ih (lo + 1) (m + onC n x lo) (some (.d (.int lo))) (by omega)
    refine ⟨u5, ?_⟩
    rw [DL.upTo, ev_forL]
    have e : m + isum (fun y => onC n x y) lo (k + 1) = m + onC n x lo + isum (fun y => onC n x y) (lo + 1) k := by
      show m + (onC n x lo + isum _ (lo + 1) k) = _; omega
    rw [e, ← h]
    by_cases q : x * x + lo * lo = n
    · simp (disch := omega) [l_law_8, q, onC]
    · simp (disch := omega) [l_law_8, q, onC]
theorem outer {ns : List Int} {p : List D} {s2 s3 s6 s7 s8 s9 s10 s11 s12 s14 s15 s16 s18 s19 : Option DL.S} {n : Nat} (hn : n ≤ 30) (k : Nat) : ∀ (lo m : Int) (s4 s5 : Option DL.S), -(n : Int) ≤ lo → lo + k ≤ n + 1 →
    ∃ u4 u5, forL (.v 4) l_law_9 (DL.upTo lo k) (Ez ns p s2 s3 s4 s5 s6 s7 s8 s9 s10 s11 s12 [some (.d (.int n)), s14, s15, s16, some (.d (.int m)), s18, s19]) =
      some (.nx, Ez ns p s2 s3 u4 u5 s6 s7 s8 s9 s10 s11 s12 [some (.d (.int n)), s14, s15, s16, some (.d (.int (m + isum (fun x => isum (fun y => onC n x y) (-n) (2 * n + 1)) lo k))), s18, s19]) := by
  induction k with
  | zero => intro lo m s4 s5 _ _; exact ⟨s4, s5, by simp [DL.upTo, isum]⟩
  | succ k ih =>
    intro lo m s4 s5 h1 h2
    obtain ⟨v5, w⟩ := inner (ns := ns) (p := p) (s2 := s2) (s3 := s3) (s6 := s6) (s7 := s7) (s8 := s8) (s9 := s9) (s10 := s10) (s11 := s11) (s12 := s12) (s14 := s14) (s15 := s15) (s16 := s16) (s18 := s18) (s19 := s19) (x := lo) (n := n) (by omega) (by omega) (2 * n + 1) (-n) m s5 (by omega)
    obtain ⟨u4, u5, h⟩ := ih (lo + 1) (m + isum (fun y => onC n lo y) (-n) (2 * n + 1)) (some (.d (.int lo))) v5 (by omega) (by omega)
    refine ⟨u4, u5, ?_⟩
    rw [DL.upTo, ev_forL]
    have e : m + isum (fun x => isum (fun y => onC n x y) (-n) (2 * n + 1)) lo (k + 1) = m + isum (fun y => onC n lo y) (-n) (2 * n + 1) + isum (fun x => isum (fun y => onC n x y) (-n) (2 * n + 1)) (lo + 1) k := by
      show m + (isum (fun y => onC n lo y) (-n) (2 * n + 1) + isum _ (lo + 1) k) = _; omega
    rw [e, ← h]
    have e2 : ((n : Int) + 1 + (n : Int)).toNat = 2 * n + 1 := by omega
    simp (disch := omega) [l_law_9, e2, w]
end G
/-! k90: the law, last part. -/
namespace G
open PySem L2 DL Lat
theorem toD_inj {s t : Tr} : (decide (s.1 = t.1) && decide ((0 : Int) = 0) && (decide (s.2.1 = t.2.1) && decide (s.2.2 = t.2.2))) = decide (s = t) := by
  rw [Bool.eq_iff_iff]
  simp only [Bool.and_eq_true, decide_eq_true_eq, and_true]
  constructor
  · rintro ⟨h1, h2, h3⟩; exact Prod.ext h1 (Prod.ext h2 h3)
  · rintro rfl; exact ⟨rfl, rfl, rfl⟩
abbrev Eb (ns : List Int) (p1 : List D) (s2 s3 : Option DL.S) (x4 x5 : D) (s6 s7 s8 s9 s10 s11 s12 : Option DL.S) (r : List (Option DL.S)) : DL.Env := Ez ns p1 s2 s3 (some (.d x4)) (some (.d x5)) s6 s7 s8 s9 s10 s11 s12 r
theorem tab_size {n : Nat} (hn30 : n ≤ 30) : ((fl n).map toD).length ≤ sizeLine := by
  have h1 := fl_len n (by omega)
  have h2 := sizeLine_big
  rw [List.length_map]
  generalize (fl n).length = k at *
  generalize sizeLine = z at *
  omega
theorem sqD_eq {n : Nat} (hn30 : n ≤ 30) (hn0 : 0 < n) {t : Tr} (ht : t ∈ fl n) : sqD (toD t) = sqF t := by
  have q := sq_tr hn30 hn0 ht
  generalize sqF t = b at *
  generalize toD t = d at *
  show (match f_is_square [.d d] with
    | some (.bool b, _) => b
    | _ => false) = b
  rw [q]
theorem filt_map {α : Type} (l : List α) (f : α → D) (P : D → Bool) (q : α → Bool) (h : ∀ t ∈ l, P (f t) = q t) : ((l.map f).filter P).map id = (l.filter q).map f := by
  induction l with
  | nil => rfl
  | cons x l ih =>
    have hx := h x List.mem_cons_self
    have ih := ih fun t ht => h t (List.mem_cons_of_mem _ ht)
    rw [List.map_cons, List.filter_cons, List.filter_cons, hx]
    cases q x with
    | true => simp only [if_true, List.map_cons, ih]; rfl
    | false => simpa using ih
theorem own_list {n : Nat} (hn30 : n ≤ 30) (hn0 : 0 < n) : (((fl n).map toD).filter sqD).map id = ((fl n).filter sqF).map toD := filt_map _ _ _ _ fun t ht => sqD_eq hn30 hn0 ht
theorem mov_map {α : Type} (l : List α) (f : α → D) (g : D → D) (h : α → D) (e : ∀ t ∈ l, g (f t) = h t) : ((l.map f).filter (fun _ => true)).map g = l.map h := by
  rw [List.filter_eq_self.mpr (fun _ _ => rfl), List.map_map]
  exact List.map_congr_left e
theorem own_eq {ns : List Int} {p1 : List D} {s2 s3 : Option DL.S} {x4 x5 : D} {s6 s7 s8 s9 s10 s11 s12 : Option DL.S} {n : Nat} (hn30 : n ≤ 30) (hn0 : 0 < n) :
    eComp (iSeq (eV 14)) (.v 18) [18] t_law_4 c_law_3 (Eb ns p1 s2 s3 x4 x5 s6 s7 s8 s9 s10 s11 s12 [some (.d (.int n)), some (.d (.list ((fl n).map toD))), none, none, none, none, none]) =
      some (.list (((fl n).filter sqF).map toD), Eb ns p1 s2 s3 x4 x5 s6 s7 s8 s9 s10 s11 s12 [some (.d (.int n)), some (.d (.list ((fl n).map toD))), none, none, none, none, none]) := by
  have h := comp_pure (it := iSeq (eV 14)) (i := 18) (t := t_law_4) (m := c_law_3) (env := Eb ns p1 s2 s3 x4 x5 s6 s7 s8 s9 s10 s11 s12 [some (.d (.int n)), some (.d (.list ((fl n).map toD))), none, none, none, none, none]) (ds := (fl n).map toD) (P := sqD) (f := id)
    (by simp) (by simp) (by rfl) (tab_size hn30)
    (fun d hd => by
      obtain ⟨t, ht, rfl⟩ := List.mem_map.mp hd
      have q := sq_tr hn30 hn0 ht
      rw [sqD_eq hn30 hn0 ht]
      generalize sqF t = bb at *
      generalize toD t = dd at *
      generalize fl n = LL at *
      simp [t_law_4, q])
    (fun d hd _ => by simp [c_law_3])
  rw [h]
  rw [own_list hn30 hn0]
theorem mov_phi {t r : Tr} (h : Tn t r) : movD (toD t) = toD r := by
  show (match f_form_of [.d (nD 0 t.1 (-t.2.2) t.2.1)] with
    | some (r, _) => r
    | none => .none) = _
  rw [h.1]
theorem moved_eq {ns : List Int} {p1 : List D} {s2 s3 : Option DL.S} {x4 x5 : D} {s6 s7 s8 s9 s10 s11 s12 : Option DL.S} {n : Nat} (hn30 : n ≤ 30) (hn0 : 0 < n) {phi : Tr → Tr} (hphi : ∀ t ∈ fl n, Tn t (phi t)) {s15 : D} :
    eComp (iSeq (eV 14)) (.v 18) [18] tTrue c_law_5 (Eb ns p1 s2 s3 x4 x5 s6 s7 s8 s9 s10 s11 s12 [some (.d (.int n)), some (.d (.list ((fl n).map toD))), some (.d s15), none, none, none, none]) =
      some (.list (((fl n).map phi).map toD), Eb ns p1 s2 s3 x4 x5 s6 s7 s8 s9 s10 s11 s12 [some (.d (.int n)), some (.d (.list ((fl n).map toD))), some (.d s15), none, none, none, none]) := by
  have h := comp_pure (it := iSeq (eV 14)) (i := 18) (t := tTrue) (m := c_law_5) (env := Eb ns p1 s2 s3 x4 x5 s6 s7 s8 s9 s10 s11 s12 [some (.d (.int n)), some (.d (.list ((fl n).map toD))), some (.d s15), none, none, none, none]) (ds := (fl n).map toD) (P := fun _ => true) (f := movD)
    (by simp) (by simp) (by rfl) (tab_size hn30) (fun d _ => by simp)
    (fun d hd _ => by
      obtain ⟨t, ht, rfl⟩ := List.mem_map.mp hd
      have q := (hphi t ht).1
      rw [mov_phi (hphi t ht)]
      generalize toD (phi t) = dd at *
      simp [c_law_5, q])
  rw [h]
  rw [mov_map (fl n) toD movD (fun t => toD (phi t)) fun t ht => mov_phi (hphi t ht), List.map_map]
  rfl
def Pk (n : Nat) (phi : Tr → Tr) (d : D) : Bool := match d with
  | .int k => (match (fl n)[k.toNat]? with
    | some t => decide (phi t = t)
    | none => false)
  | _ => false
theorem Pk_at {n : Nat} {phi : Tr → Tr} (i : Nat) (h : i < (fl n).length) : Pk n phi (.int (i : Int)) = decide (phi (fl n)[i] = (fl n)[i]) := by
  show (match (fl n)[(i : Int).toNat]? with
    | some t => decide (phi t = t)
    | none => false) = _
  rw [Int.toNat_natCast, List.getElem?_eq_getElem h]
theorem same_eq {ns : List Int} {p1 : List D} {s2 s3 : Option DL.S} {x4 x5 : D} {s6 s7 s8 s9 s10 s11 s12 : Option DL.S} {n : Nat} (hn30 : n ≤ 30) (hn0 : 0 < n) {phi : Tr → Tr} {s15 : D} :
    ∃ L : List D, L.length = ((fl n).filter (fun t => decide (phi t = t))).length ∧ eComp (iOp rng1 [(.e (eOp aLen [(.p 14)]))]) (.v 19) [19] t_law_7 c_law_6 (Eb ns p1 s2 s3 x4 x5 s6 s7 s8 s9 s10 s11 s12 [some (.d (.int n)), some (.d (.list ((fl n).map toD))), some (.d s15), some (.d (.list (((fl n).map phi).map toD))), none, none, none]) =
      some (.list L, Eb ns p1 s2 s3 x4 x5 s6 s7 s8 s9 s10 s11 s12 [some (.d (.int n)), some (.d (.list ((fl n).map toD))), some (.d s15), some (.d (.list (((fl n).map phi).map toD))), none, none, none]) := by
  refine ⟨((DL.upTo 0 (fl n).length).filter (Pk n phi)).map id, ?_, ?_⟩
  · rw [List.length_map, range_get (fl n) (fun t => decide (phi t = t)) (Pk n phi) Pk_at]
  · have hln := fl_len n (by omega)
    refine comp_pure (it := iOp rng1 [(.e (eOp aLen [(.p 14)]))]) (i := 19) (t := t_law_7) (m := c_law_6) (ds := DL.upTo 0 (fl n).length) (P := Pk n phi) (f := id) ?_ (by simp) (by rfl) (by rw [upTo_length, ← List.length_map (f := toD)]; exact tab_size hn30) (fun d hd => ?_) (fun d hd _ => by simp [c_law_6])
    · have e : (((fl n).map toD).length : Int) = (fl n).length := by rw [List.length_map]
      simp (disch := omega) [e]
    · rw [upTo_eq] at hd
      obtain ⟨i, hi, rfl⟩ := List.mem_map.mp hd
      have hi := List.mem_range.mp hi
      rw [Int.zero_add]
      have g1 : atI (((fl n).map phi).map toD) (i : Int) = some (toD (phi (fl n)[i])) := atI_nat (by simp [hi])
      have g2 : atI ((fl n).map toD) (i : Int) = some (toD (fl n)[i]) := atI_nat (by simp [hi])
      have g3 : aEq (toD (phi (fl n)[i])) (toD (fl n)[i]) = some (.bool (Pk n phi (.int (i : Int)))) := by
        rw [Pk_at i hi, ev_eqN, toD_inj]
      generalize hA : ((fl n).map phi).map toD = LA at *
      generalize hB : (fl n).map toD = LB at *
      generalize toD (phi (fl n)[i]) = da at *
      generalize toD (fl n)[i] = db at *
      generalize Pk n phi (.int (i : Int)) = bb at *
      simp [t_law_7, g1, g2, g3]
theorem last {ns : List Int} {cc : Nat} {p : List D} (hb : Bits ns) (hp : Pool ns cc p) (hc : cc < 2 ^ 50) (s2 s3 : Option DL.S) (x5 x4 : D) (s6 s7 s8 s9 s10 s11 s12 : Option DL.S) :
    ∃ e', (pSeq (pSet (.v 13) (eOp2 aAdd (.e (eK (.int 1))) (.e (eCall f_law_draw [(.p 1), (.e (eK (.int 30)))])))) (pSeq (pSet (.v 14) (eCall f_nets_of [(.p 13)])) (pSeq (pSet (.v 15) (eComp (iSeq (eV 14)) (.v 18) [18] t_law_4 c_law_3)) (pSeq (pSet (.v 16) (eComp (iSeq (eV 14)) (.v 18) [18] tTrue c_law_5)) (pSeq (pIf (tOrD (tB (eOp2 aNe (.e (eOp aSorted [(.p 16)])) (.p 14))) (tB (eOp2 aNe (.e (eOp aLen [(.e (eComp (iOp rng1 [(.e (eOp aLen [(.p 14)]))]) (.v 19) [19] t_law_7 c_law_6))])) (.e (eOp aLen [(.p 15)]))))) (pRet (eK (.bool false))) pSkip) (pSeq (pSet (.v 17) (eK (.int 0))) (pSeq (pFor (iOp rng2 [(.e (eOp1 aNeg (.p 13))), (.e (eOp2 aAdd (.p 13) (.e (eK (.int 1)))))]) (.v 4) l_law_9) (pRet (eOp2 aEq (.e (eOp2 aMulI (.e (eK (.int 4))) (.e (eOp aLen [(.p 15)])))) (.p 17)))))))))) 
      (Ez ns p s2 s3 (some (.d x4)) (some (.d x5)) s6 s7 s8 s9 s10 s11 s12 [none, none, none, none, none, none, none]) = some (.rt (.bool true), some (.d (scr ns)) :: e') := by
  obtain ⟨z, p1, e1, z0, z1, hp1⟩ := draw_eq hb hp (by omega) (l := 30) (by decide) (by decide)
  obtain ⟨n, hn⟩ := Int.eq_ofNat_of_zero_le (show 0 ≤ 1 + z by omega)
  have hn30 : n ≤ 30 := by omega
  have hn0 : 0 < n := by omega
  have e2 := nets_of_eq hn30
  have hlen := fl_len n (by omega)
  have hsz := tab_size hn30
  have hfour := four n (by omega) hn0
  obtain ⟨phi, hphi⟩ : ∃ phi : Tr → Tr, ∀ t ∈ fl n, Tn t (phi t) := by
    classical
    refine ⟨fun t => if h : ∃ r, Tn t r then Classical.choose h else t, fun t ht => ?_⟩
    have hx := tn_ex hn30 hn0 ht
    show Tn t (if h : ∃ r, Tn t r then Classical.choose h else t)
    rw [dif_pos hx]
    exact Classical.choose_spec hx
  have hperm : ((fl n).map phi).Perm (fl n) := map_perm (fl_nodup n) (fun t ht => tn_mem hn30 hn0 ht (hphi t ht)) (fun s hs t ht e => tn_inj hn30 hn0 hs ht (hphi s hs) (by rw [e]; exact hphi t ht))
  have hsort := sorted_perm hperm
  have hown : ((fl n).filter (fun t => decide (phi t = t))).length = ((fl n).filter sqF).length := by
    congr 1
    refine List.filter_congr fun t ht => ?_
    rw [Bool.eq_iff_iff, decide_eq_true_iff]
    exact tn_self hn30 hn0 ht (hphi t ht)
  have hl2 : ((fl n).filter sqF).length ≤ 1000 := Nat.le_trans (List.length_filter_le _ _) hlen
  have c1 := own_eq (ns := ns) (p1 := p1) (s2 := s2) (s3 := s3) (x4 := x4) (x5 := x5) (s6 := s6) (s7 := s7) (s8 := s8) (s9 := s9) (s10 := s10) (s11 := s11) (s12 := s12) hn30 hn0
  have c2 := moved_eq (ns := ns) (p1 := p1) (s2 := s2) (s3 := s3) (x4 := x4) (x5 := x5) (s6 := s6) (s7 := s7) (s8 := s8) (s9 := s9) (s10 := s10) (s11 := s11) (s12 := s12) hn30 hn0 hphi (s15 := .list (((fl n).filter sqF).map toD))
  obtain ⟨L, hL, c3⟩ := same_eq (ns := ns) (p1 := p1) (s2 := s2) (s3 := s3) (x4 := x4) (x5 := x5) (s6 := s6) (s7 := s7) (s8 := s8) (s9 := s9) (s10 := s10) (s11 := s11) (s12 := s12) hn30 hn0 (phi := phi) (s15 := .list (((fl n).filter sqF).map toD))
  rw [hown] at hL
  have hne : aNe (.list ((fl n).map toD)) (.list ((fl n).map toD)) = some (.bool false) := by
    unfold aNe
    rw [if_pos ⟨shaped_map _, shaped_map _⟩, PySem.SeqAt.eqv_refl _ (SeqAt.canLay_of_shaped (shaped_map _))]
    rfl
  obtain ⟨u4, u5, w⟩ := outer (ns := ns) (p := p1) (s2 := s2) (s3 := s3) (s6 := s6) (s7 := s7) (s8 := s8) (s9 := s9) (s10 := s10) (s11 := s11) (s12 := s12) (s14 := some (.d (.list ((fl n).map toD)))) (s15 := some (.d (.list (((fl n).filter sqF).map toD)))) (s16 := some (.d (.list (((fl n).map phi).map toD)))) (s18 := none) (s19 := none) hn30 (2 * n + 1) (-n) 0 (some (.d x4)) (some (.d x5)) (by omega) (by omega)
  rw [Int.zero_add, ← hfour] at w
  have hlm : (((fl n).filter sqF).map toD).length = ((fl n).filter sqF).length := List.length_map _
  clear hphi hperm hown hfour
  generalize hA : ((fl n).map phi).map toD = LA at *
  generalize hB : (fl n).map toD = LB at *
  generalize hC : ((fl n).filter sqF).map toD = LC at *
  generalize hK : ((fl n).filter sqF).length = K at *
  haveI : Sm (K : Int) 12 := ⟨by omega⟩
  have e3 : ((n : Int) + 1 + (n : Int)).toNat = 2 * n + 1 := by omega
  refine ⟨?_, ?_⟩
  rotate_left
  · refine (seq_nx (env1 := Eb ns p1 s2 s3 x4 x5 s6 s7 s8 s9 s10 s11 s12 [some (.d (.int n)), none, none, none, none, none, none]) (by simp [e1, hn])).trans ?_
    refine (seq_nx (env1 := Eb ns p1 s2 s3 x4 x5 s6 s7 s8 s9 s10 s11 s12 [some (.d (.int n)), some (.d (.list LB)), none, none, none, none, none]) (by simp [e2])).trans ?_
    refine (seq_nx (env1 := Eb ns p1 s2 s3 x4 x5 s6 s7 s8 s9 s10 s11 s12 [some (.d (.int n)), some (.d (.list LB)), some (.d (.list LC)), none, none, none, none]) (by rw [ev_set, c1]; simp)).trans ?_
    refine (seq_nx (env1 := Eb ns p1 s2 s3 x4 x5 s6 s7 s8 s9 s10 s11 s12 [some (.d (.int n)), some (.d (.list LB)), some (.d (.list LC)), some (.d (.list LA)), none, none, none]) (by rw [ev_set, c2]; simp)).trans ?_
    refine (seq_nx (env1 := Eb ns p1 s2 s3 x4 x5 s6 s7 s8 s9 s10 s11 s12 [some (.d (.int n)), some (.d (.list LB)), some (.d (.list LC)), some (.d (.list LA)), none, none, none]) (by
      simp [hsort, hne, c3, hL, hlm])).trans ?_
    refine (seq_nx (env1 := Eb ns p1 s2 s3 x4 x5 s6 s7 s8 s9 s10 s11 s12 [some (.d (.int n)), some (.d (.list LB)), some (.d (.list LC)), some (.d (.list LA)), some (.d (.int 0)), none, none]) (by simp)).trans ?_
    refine (seq_nx (env1 := Ez ns p1 s2 s3 u4 u5 s6 s7 s8 s9 s10 s11 s12 [some (.d (.int n)), some (.d (.list LB)), some (.d (.list LC)), some (.d (.list LA)), some (.d (.int (4 * (K : Int)))), none, none]) (by simp (disch := omega) [e3, w])).trans ?_
    simp (disch := omega) [hlm]
    first | rfl | (and_intros <;> rfl)
theorem law_eq {ns : List Int} (hb : Bits ns) : f_law [.d (scr ns)] = some (.bool true, [.d (scr ns)]) := by
  obtain ⟨p, e, hp⟩ := pool_eq hb
  obtain ⟨e', h1, cc, p', s2, s3, s4, s5, s6, s7, s8, s9, s10, s11, s12, h45, rfl, h3, h4⟩ := for_all (p := .v 2) (body := l_law_2) (fun ds env => ∃ (cc : Nat) (p : List D) (s2 s3 s4 s5 s6 s7 s8 s9 s10 s11 s12 : Option DL.S), (ds.length < 4 → ∃ x4 x5, s4 = some (.d x4) ∧ s5 = some (.d x5)) ∧ env = Ez ns p s2 s3 s4 s5 s6 s7 s8 s9 s10 s11 s12 [none, none, none, none, none, none, none] ∧ Pool ns cc p ∧ cc + 20 * ds.length ≤ 80)
    (fun d ds env hi => by
      obtain ⟨cc, p, s2, s3, s4, s5, s6, s7, s8, s9, s10, s11, s12, _, rfl, h1, h3⟩ := hi
      rw [List.length_cons] at h3
      obtain ⟨p', u3, u4, u5, u6, u7, u8, u9, u10, u11, u12, t1, t2⟩ := turn hb h1 (by omega) (some (.d d)) s3 s4 s5 s6 s7 s8 s9 s10 s11 s12 [none, none, none, none, none, none, none]
      exact ⟨Ez ns p (some (.d d)) s3 s4 s5 s6 s7 s8 s9 s10 s11 s12 [none, none, none, none, none, none, none], by simp, _, .inl t1, cc + 20, p', _, _, _, _, _, _, _, _, _, _, _, fun _ => ⟨_, _, rfl, rfl⟩, rfl, t2, by omega⟩)
    (DL.upTo 0 4) (Ez ns p none none none none none none none none none none none [none, none, none, none, none, none, none]) ⟨0, p, none, none, none, none, none, none, none, none, none, none, none, fun h => absurd h (by decide), rfl, hp, by decide⟩
  obtain ⟨x4, x5, rfl, rfl⟩ := h45 (by decide)
  obtain ⟨e2, w⟩ := last hb h3 (by simp at h4; omega) s2 s3 x5 x4 s6 s7 s8 s9 s10 s11 s12
  show fnD 20 m_law _ = _
  unfold m_law
  rw [ev_fn]
  have a1 : pOwn 1 (eCall f_law_pool [(.p 0)]) ([S.d (scr ns)].map some ++ List.replicate (20 - [S.d (scr ns)].length) none) = some (.nx, Ez ns p none none none none none none none none none none none [none, none, none, none, none, none, none]) := by
    simp [e, List.replicate]
  rw [seq_nx a1]
  have a2 : pFor (iOp rng1 [(.e (eK (.int 4)))]) (.v 2) l_law_2 (Ez ns p none none none none none none none none none none none [none, none, none, none, none, none, none]) = some (.nx, Ez ns p' s2 s3 (some (.d x4)) (some (.d x5)) s6 s7 s8 s9 s10 s11 s12 [none, none, none, none, none, none, none]) := by
    have : pFor (iOp rng1 [(.e (eK (.int 4)))]) (.v 2) l_law_2 (Ez ns p none none none none none none none none none none none [none, none, none, none, none, none, none]) = forL (.v 2) l_law_2 (DL.upTo 0 4) (Ez ns p none none none none none none none none none none none [none, none, none, none, none, none, none]) := by
      simp (disch := omega)
    rw [this, h1]
  rw [seq_nx a2, w]
  simp
end G
theorem law_true (ns : List Int) (h1 : ns.length ≤ 63) (h2 : ∀ z ∈ ns, PySem.Builtin.Int.intBits z ≤ 1048576) : ∃ r, G.f_law [.d (G.scr ns)] = some (.bool true, r) := ⟨_, G.law_eq (G.bits_of h1 h2)⟩
open PySem PySem.W PyProof.Rows DL
set_option maxHeartbeats 0 in
theorem PySem.Challenge.cw_inkwright_k90_whole_squares_and_mirrors_holds : PySem.Challenge.rw_inkwright_k90_whole_squares_and_mirrors.Holds := by
  w_on; o_law; k_head; (case hw => w_witness2)
  k_fill
  refine L2.walk_ofB (l := PySem.Challenge.rw_inkwright_k90_whole_squares_and_mirrors) (n := 63) (k := 6) (x := "script") (CX := fun _ => L2.CX0) (sp := fun w => DL.spD ⟨_, fun _ => False⟩ G.f_law 1) rfl (by decide) rfl ⟨rfl, by decide, by decide⟩ (fun w h Y => PySem.W.kIn_of Y) ?F (fun _ H a ns hl hb _ hS => DL.sp_script hS (law_true ns hl hb)) (fun _ _ _ _ _ h => h)
  case F =>
    intro w mg fa h KX GG hmg
    refine' G.all_mk KX GG hmg ?a1 ?l1 ?c1 ?k1 ?a2 ?l2 ?c2 ?k2 ?a3 ?l3 ?c3 ?k3 ?a4 ?l4 ?c4 ?k4 ?a5 ?l5 ?c5 ?k5 ?a6 ?l6 ?c6 ?k6 ?a7 ?l7 ?c7 ?k7 ?a8 ?l8 ?c8 ?k8 ?a9 ?l9 ?c9 ?k9 ?a10 ?l10 ?c10 ?k10 ?a11 ?l11 ?c11 ?k11 ?a12 ?l12 ?c12 ?k12 ?a13 ?l13 ?c13 ?k13 ?a14 ?l14 ?c14 ?k14 ?a15 ?l15 ?c15 ?k15 ?a16 ?l16 ?c16 ?k16 ?a17 ?l17 ?c17 ?k17 ?a18 ?l18 ?c18 ?k18 ?a19 ?l19 ?c19 ?k19 ?a20 ?l20 ?c20 ?k20 ?a21 ?l21 ?c21 ?k21 ?a22 ?l22 ?c22 ?k22 ?a23 ?l23 ?c23 ?k23 ?a24 ?l24 ?c24 ?k24 ?z0 ?z1 ?z2 ?z3 ?z4 ?z5 ?z6 ?z7 ?z8 ?z9 ?z10 ?z11 ?b0
    (case a1 => k_is); (case l1 => k_is); (case c1 => k_is); (case k1 => k_is); (case a2 => k_is); (case l2 => k_is); (case c2 => k_is); (case k2 => k_is); (case a3 => k_is); (case l3 => k_is); (case c3 => k_is); (case k3 => k_is); (case a4 => k_is); (case l4 => k_is); (case c4 => k_is); (case k4 => k_is); (case a5 => k_is); (case l5 => k_is); (case c5 => k_is); (case k5 => k_is); (case a6 => k_is); (case l6 => k_is); (case c6 => k_is); (case k6 => k_is); (case a7 => k_is); (case l7 => k_is); (case c7 => k_is); (case k7 => k_is); (case a8 => k_is); (case l8 => k_is); (case c8 => k_is); (case k8 => k_is); (case a9 => k_is); (case l9 => k_is); (case c9 => k_is); (case k9 => k_is); (case a10 => k_is); (case l10 => k_is); (case c10 => k_is); (case k10 => k_is); (case a11 => k_is); (case l11 => k_is); (case c11 => k_is); (case k11 => k_is); (case a12 => k_is); (case l12 => k_is); (case c12 => k_is); (case k12 => k_is); (case a13 => k_is); (case l13 => k_is); (case c13 => k_is); (case k13 => k_is); (case a14 => k_is); (case l14 => k_is); (case c14 => k_is); (case k14 => k_is); (case a15 => k_is); (case l15 => k_is); (case c15 => k_is); (case k15 => k_is); (case a16 => k_is); (case l16 => k_is); (case c16 => k_is); (case k16 => k_is); (case a17 => k_is); (case l17 => k_is); (case c17 => k_is); (case k17 => k_is); (case a18 => k_is); (case l18 => k_is); (case c18 => k_is); (case k18 => k_is); (case a19 => k_is); (case l19 => k_is); (case c19 => k_is); (case k19 => k_is); (case a20 => k_is); (case l20 => k_is); (case c20 => k_is); (case k20 => k_is); (case a21 => k_is); (case l21 => k_is); (case c21 => k_is); (case k21 => k_is); (case a22 => k_is); (case l22 => k_is); (case c22 => k_is); (case k22 => k_is); (case a23 => k_is); (case l23 => k_is); (case c23 => k_is); (case k23 => k_is); (case a24 => k_is); (case l24 => k_is); (case c24 => k_is); (case k24 => k_is); (case z0 => k_is); (case z1 => k_is); (case z2 => k_is); (case z3 => k_is); (case z4 => k_is); (case z5 => k_is); (case z6 => k_is); (case z7 => k_is); (case z8 => k_is); (case z9 => k_is); (case z10 => k_is); (case z11 => k_is); (case b0 => k_is)
