import PyProof.Rows.All
import Wide.All
import OpenK.AllK
import Wide.FinOn
import KE.KExcIs
import KE.KStateDown
import HandS.ForMost
import HandS.ForExc
import HandS.CallSlots
import HandS.Defaults
import HandS.Wide
import HandS.ExcInit
import HandS.IsInst
import HandS.ExcValue
import HandS.ExcField
import HandS.Head0
import HandS.Head1
import HandS.Head2
import HandS.HeadEnd
import HandS.HeadHook1
import HandS.HeadHook2
import HandS.Ends
import HandS.More
import HandS.Words
import HandS.WordsExc
import HandS.Style
import HandS.Iter
import HandS.DictComp
import HandS.Deep
import PySem.Challenge.RW_rowvault_k00_errors_and_their_fields
set_option Elab.async false
set_option linter.all false
set_option maxRecDepth 100000
set_option maxHeartbeats 0
/-! R: a program's defs as plain Lean functions (evaluators), each shown sound over the hand layer. -/
namespace R
open PySem L2

/-- a datum: a value with all that it reaches -/
inductive D where
  | non | bl (b : Bool) | int (i : Int) | str (x : Str)
  | tup (xs : List D) | lst (xs : List D) | dic (ks vs : List D)
  | obj (C : Nat) (ns : List Str) (vs : List D)
  | exc (C : Nat) (ns : List Str) (vs : List D)
  | scr (ns : List Int)
  | ty (n : String)
  | cls (c : Nat)
  deriving Inhabited

def keyD : Key → D
  | .inl i => .int i
  | .inr x => .str x

def Ex (H H' : Hp) : Prop := ∀ a o, H a = some o → H' a = some o
theorem Ex.refl (H : Hp) : Ex H H := fun _ _ h => h
theorem Ex.trans {H H1 H2 : Hp} (a : Ex H H1) (b : Ex H1 H2) : Ex H H2 := fun x o h => b x o (a x o h)
theorem Ex.new {H : Hp} {p : Addr} {o : HO} (h : H p = none) : Ex H (upd H p o) := fun a u e => by
  rw [upd_ne (ne_of_none e h)]
  exact e
theorem Ex.nn {H H' : Hp} {p : Addr} (e : Ex H H') (h : H' p = none) : H p = none := by
  cases h1 : H p with
  | none => rfl
  | some o =>
    rw [e p o h1] at h
    cases h
theorem Ex.both {H H' : Hp} {p : Addr} {o : HO} (e : Ex H H') (h : H p = none) : Ex (upd H p o) (upd H' p o) := fun a u q => by
  by_cases ha : a = p
  · subst ha
    rw [upd_same] at q ⊢
    exact q
  · rw [upd_ne ha] at q ⊢
    exact e a u q
theorem ex_rd {H H' : Hp} {a : Addr} {u : HO} (e : Ex H H') (h : Rd H a u) : Rd H' a u := by
  rcases h with h | ⟨o, h⟩
  · exact .inl (e a _ h)
  · exact .inr ⟨o, e a _ h⟩
theorem ex_l {K : PySem.W.Frag} {H H' : Hp} {a : Addr} {xs : List V} (e : Ex H H') (h : SqL K H a xs) : SqL K H' a xs := by
  rcases h with h | h
  · exact .inl (ex_rd e h)
  · exact .inr h
theorem ex_t {K : PySem.W.Frag} {H H' : Hp} {a : Addr} {xs : List V} (e : Ex H H') (h : SqT K H a xs) : SqT K H' a xs := by
  rcases h with h | h
  · exact .inl (ex_rd e h)
  · exact .inr h

/-- an exception's object, by what is true of it -/
def IsExc (φ : Heap → Prop) (a C : Addr) (d : Option Addr) : Prop := ∀ h, φ h → ∃ (oe : Obj) (vs : Array Value), h.get? a = some oe ∧ Zc (.ref C) d oe ∧ oe.data = .fields vs
/-- its own dict -/
def IsXd (o : HO) (dx : Addr) (fs : List (Str × V)) : Prop := o = .xd fs ∨ o = exd dx fs
def flds (fs : List (Str × V)) (ns : List Str) : List V := ns.map fun n => (fs.lookup n).getD .non
def HasF (fs : List (Str × V)) (ns : List Str) : Prop := ∀ n ∈ ns, ∃ v, fs.lookup n = some v

section
variable (K : PySem.W.Frag) (cl : Nat → Addr)
mutual
inductive Rep (H : Hp) : V → D → Prop where
  | non : Rep H .non .non
  | bl {b : Bool} : Rep H (.bl b) (.bl b)
  | int {i : Int} : Rep H (.int i) (.int i)
  | str {x : Str} : Rep H (.str x) (.str x)
  | tup {a : Addr} {xs : List V} {ds : List D} : SqT K H a xs → Reps H xs ds → Rep H (.ref a) (.tup ds)
  | lst {a : Addr} {xs : List V} {ds : List D} : H a = some (.lst xs) → Reps H xs ds → Rep H (.ref a) (.lst ds)
  | scr {a : Addr} {ns : List Int} : SqL K H a (ns.map V.int) → Rep H (.ref a) (.scr ns)
  | dK {a : Addr} {o : Obj} {kvs : List (Key × V)} {ks vs : List D} : H a = some (.frz o (.dK kvs)) → ks = kvs.map (fun p => keyD p.1) → Reps H (kvs.map (·.2)) vs → Rep H (.ref a) (.dic ks vs)
  | dT {a : Addr} {o : Obj} {kvs : List (List Key × V)} {ks vs : List D} : H a = some (.frz o (.dT kvs)) → ks = kvs.map (fun p => .tup (p.1.map keyD)) → Reps H (kvs.map (·.2)) vs → Rep H (.ref a) (.dic ks vs)
  | obj {a dx : Addr} {C : Nat} {fs : List (Str × V)} {ns : List Str} {vs : List D} : H a = some (.ins (cl C) dx fs) → fs.map (·.1) = ns → Reps H (fs.map (·.2)) vs → Rep H (.ref a) (.obj C ns vs)
  | exc {a dx : Addr} {φ : Heap → Prop} {o : HO} {C : Nat} {fs : List (Str × V)} {ns : List Str} {vs : List D} : H a = some (.ext φ) → IsExc φ a (cl C) (some dx) → H dx = some o → IsXd o dx fs → HasF fs ns → Reps H (flds fs ns) vs → Rep H (.ref a) (.exc C ns vs)
  | exc0 {a : Addr} {φ : Heap → Prop} {C : Nat} : H a = some (.ext φ) → IsExc φ a (cl C) none → Rep H (.ref a) (.exc C [] [])
  | ty {n : String} : Rep H (.ty n) (.ty n)
  | cls {c : Nat} : Rep H (.ref (cl c)) (.cls c)
inductive Reps (H : Hp) : List V → List D → Prop where
  | nil : Reps H [] []
  | cons {v : V} {d : D} {vs : List V} {ds : List D} : Rep H v d → Reps H vs ds → Reps H (v :: vs) (d :: ds)
end
end

section
variable {K : PySem.W.Frag} {cl : Nat → Addr} {H H' : Hp}
theorem Rep.mono (e : Ex H H') {v : V} {d : D} (h : Rep K cl H v d) : Rep K cl H' v d :=
  Rep.rec (motive_1 := fun v d _ => Rep K cl H' v d) (motive_2 := fun vs ds _ => Reps K cl H' vs ds) .non .bl .int .str (fun h _ r => .tup (ex_t e h) r) (fun h _ r => .lst (e _ _ h) r) (fun h => .scr (ex_l e h)) (fun h q _ r => .dK (e _ _ h) q r) (fun h q _ r => .dT (e _ _ h) q r)
    (fun h q _ r => .obj (e _ _ h) q r) (fun h i h2 x q _ r => .exc (e _ _ h) i (e _ _ h2) x q r) (fun h i => .exc0 (e _ _ h) i) .ty .cls .nil (fun _ _ a b => .cons a b) h
theorem Reps.mono (e : Ex H H') : ∀ {vs : List V} {ds : List D}, Reps K cl H vs ds → Reps K cl H' vs ds
  | _, _, .nil => .nil
  | _, _, .cons a b => .cons (a.mono e) (Reps.mono e b)
theorem Reps.length : ∀ {vs : List V} {ds : List D}, Reps K cl H vs ds → vs.length = ds.length
  | _, _, .nil => rfl
  | _, _, .cons _ b => by rw [List.length_cons, List.length_cons, Reps.length b]
theorem Reps.get : ∀ {vs : List V} {ds : List D} {i : Nat} {d : D}, Reps K cl H vs ds → ds[i]? = some d → ∃ v, vs[i]? = some v ∧ Rep K cl H v d
  | _, _, _, _, .nil, e => by simp at e
  | _, _, 0, _, .cons a _, e => by
    simp at e
    subst e
    exact ⟨_, rfl, a⟩
  | _, _, i + 1, d, .cons _ b, e => by
    obtain ⟨v, h1, h2⟩ := Reps.get (i := i) (d := d) b (by simpa using e)
    exact ⟨v, by simpa using h1, h2⟩
theorem Reps.getV : ∀ {vs : List V} {ds : List D} {i : Nat} {v : V}, Reps K cl H vs ds → vs[i]? = some v → ∃ d, ds[i]? = some d ∧ Rep K cl H v d
  | _, _, _, _, .nil, e => by simp at e
  | _, _, 0, _, .cons a _, e => by
    simp at e
    subst e
    exact ⟨_, rfl, a⟩
  | _, _, i + 1, d, .cons _ b, e => by
    obtain ⟨v, h1, h2⟩ := Reps.getV (i := i) (v := d) b (by simpa using e)
    exact ⟨v, by simpa using h1, h2⟩
theorem Reps.append : ∀ {vs ws : List V} {ds es : List D}, Reps K cl H vs ds → Reps K cl H ws es → Reps K cl H (vs ++ ws) (ds ++ es)
  | _, _, _, _, .nil, s => s
  | _, _, _, _, .cons a b, s => .cons a (Reps.append b s)
theorem Reps.set {v : V} {d : D} (r : Rep K cl H v d) : ∀ {vs : List V} {ds : List D} (i : Nat), Reps K cl H vs ds → Reps K cl H (vs.set i v) (ds.set i d)
  | _, _, _, .nil => .nil
  | _, _, 0, .cons _ t => .cons r t
  | _, _, i + 1, .cons q t => .cons q (Reps.set r i t)
theorem Reps.take : ∀ {vs : List V} {ds : List D} (n : Nat), Reps K cl H vs ds → Reps K cl H (vs.take n) (ds.take n)
  | _, _, 0, _ => by simpa using Reps.nil
  | _, _, _ + 1, .nil => .nil
  | _, _, n + 1, .cons a b => .cons a (Reps.take n b)
theorem Reps.drop : ∀ {vs : List V} {ds : List D} (n : Nat), Reps K cl H vs ds → Reps K cl H (vs.drop n) (ds.drop n)
  | _, _, 0, r => r
  | _, _, _ + 1, .nil => .nil
  | _, _, n + 1, .cons _ b => Reps.drop n b
theorem Reps.reverse : ∀ {vs : List V} {ds : List D}, Reps K cl H vs ds → Reps K cl H vs.reverse ds.reverse
  | _, _, .nil => .nil
  | _, _, .cons a b => by
    rw [List.reverse_cons, List.reverse_cons]
    exact (Reps.reverse b).append (.cons a .nil)
theorem Reps.ints : ∀ {vs : List V} {ns : List Int}, Reps K cl H vs (ns.map D.int) → vs = ns.map V.int
  | _, [], .nil => rfl
  | _, n :: ns, .cons a b => by
    cases a
    rw [List.map_cons, ← Reps.ints b]
theorem reps_ints : ∀ (ns : List Int), Reps K cl H (ns.map V.int) (ns.map D.int)
  | [] => .nil
  | _ :: ns => .cons .int (reps_ints ns)
theorem Reps.strs : ∀ {vs : List V} {ns : List Str}, Reps K cl H vs (ns.map D.str) → vs = ns.map V.str
  | _, [], .nil => rfl
  | _, n :: ns, .cons a b => by
    cases a
    rw [List.map_cons, ← Reps.strs b]
theorem reps_strs : ∀ (ns : List Str), Reps K cl H (ns.map V.str) (ns.map D.str)
  | [] => .nil
  | _ :: ns => .cons .str (reps_strs ns)
end

/-- what a slot holds, what is passed and handed back: a datum, or a place of the store -/
inductive A where
  | val (d : D) | loc (n : Nat)
  deriving Inhabited
/-- what stands at a place of the store -/
inductive Con where
  | lst (xs : List D) | dic (ks vs : List D) | dit (ks vs : List D) | ins (C : Nat) (ns : List Str) (vs : List D)
  deriving Inhabited
abbrev Store := List (Option Con)
abbrev Env := List (Option A)

section
variable (K : PySem.W.Frag) (cl : Nat → Addr)
def RepA (Hv : Hp) (ad : List Addr) (v : V) : A → Prop
  | .val d => Rep K cl Hv v d
  | .loc n => ∃ a, v = .ref a ∧ ad[n]? = some a
inductive RepAs (Hv : Hp) (ad : List Addr) : List V → List A → Prop where
  | nil : RepAs Hv ad [] []
  | cons {v : V} {a : A} {vs : List V} {as : List A} : RepA K cl Hv ad v a → RepAs Hv ad vs as → RepAs Hv ad (v :: vs) (a :: as)
def ConAt (Hv : Hp) (ad : List Addr) (H : Hp) (a : Addr) : Con → Prop
  | .lst ds => ∃ xs, H a = some (.lst xs) ∧ Reps K cl Hv xs ds
  | .dic ks vs => ∃ kvs, H a = some (.dK kvs) ∧ ks = kvs.map (fun p => keyD p.1) ∧ Reps K cl Hv (kvs.map (·.2)) vs
  | .dit ks vs => ∃ kvs, H a = some (.dT kvs) ∧ ks = kvs.map (fun p => .tup (p.1.map keyD)) ∧ Reps K cl Hv (kvs.map (·.2)) vs
  | .ins C ns vs => ∃ dx fs, H a = some (.ins (cl C) dx fs) ∧ fs.map (·.1) = ns ∧ Reps K cl Hv (fs.map (·.2)) vs
structure StOk (Hv H : Hp) (S : Store) (ad : List Addr) : Prop where
  ex : Ex Hv H
  len : ad.length = S.length
  at_ : ∀ (n : Nat) (c : Con), S[n]? = some (some c) → ∃ a, ad[n]? = some a ∧ Hv a = none ∧ ConAt K cl Hv ad H a c
  inj : ∀ (n m : Nat) (c c' : Con) (a : Addr), S[n]? = some (some c) → S[m]? = some (some c') → ad[n]? = some a → ad[m]? = some a → n = m
  sm : ∃ o φ, Hv sysModules = some (.frz o (.ext φ))
structure RepEnv (Hv : Hp) (ad : List Addr) (σ : St) (env : Env) : Prop where
  len : σ.length = env.length
  at_ : ∀ (i : Nat) a, env[i]? = some (some a) → ∃ v, σ[i]? = some (some v) ∧ RepA K cl Hv ad v a
end

/-- a prefix -/
def Pre (l m : List Addr) : Prop := ∃ r, m = l ++ r
theorem Pre.refl (l : List Addr) : Pre l l := ⟨[], by simp⟩
theorem Pre.trans {l m n : List Addr} (a : Pre l m) (b : Pre m n) : Pre l n := by
  obtain ⟨r, rfl⟩ := a
  obtain ⟨q, rfl⟩ := b
  exact ⟨r ++ q, by simp⟩
theorem Pre.get {l m : List Addr} (h : Pre l m) {n : Nat} {a : Addr} (e : l[n]? = some a) : m[n]? = some a := by
  obtain ⟨r, rfl⟩ := h
  rw [List.getElem?_append_left (List.getElem?_eq_some_iff.mp e).1]
  exact e

section
variable {K : PySem.W.Frag} {cl : Nat → Addr} {Hv Hv' H H' : Hp} {ad ad' : List Addr}
theorem RepA.mono (e : Ex Hv Hv') (p : Pre ad ad') {v : V} : ∀ {a : A}, RepA K cl Hv ad v a → RepA K cl Hv' ad' v a
  | .val _, h => Rep.mono e h
  | .loc _, ⟨x, h1, h2⟩ => ⟨x, h1, p.get h2⟩
theorem RepAs.mono (e : Ex Hv Hv') (p : Pre ad ad') : ∀ {vs : List V} {as : List A}, RepAs K cl Hv ad vs as → RepAs K cl Hv' ad' vs as
  | _, _, .nil => .nil
  | _, _, .cons a b => .cons (a.mono e p) (RepAs.mono e p b)
theorem RepAs.length : ∀ {vs : List V} {as : List A}, RepAs K cl Hv ad vs as → vs.length = as.length
  | _, _, .nil => rfl
  | _, _, .cons _ b => by rw [List.length_cons, List.length_cons, RepAs.length b]
theorem RepAs.get : ∀ {vs : List V} {as : List A} {i : Nat} {a : A}, RepAs K cl Hv ad vs as → as[i]? = some a → ∃ v, vs[i]? = some v ∧ RepA K cl Hv ad v a
  | _, _, _, _, .nil, e => by simp at e
  | _, _, 0, _, .cons a _, e => by
    simp at e
    subst e
    exact ⟨_, rfl, a⟩
  | _, _, i + 1, d, .cons _ b, e => by
    obtain ⟨v, h1, h2⟩ := RepAs.get (i := i) (a := d) b (by simpa using e)
    exact ⟨v, by simpa using h1, h2⟩
theorem RepAs.append : ∀ {vs ws : List V} {as bs : List A}, RepAs K cl Hv ad vs as → RepAs K cl Hv ad ws bs → RepAs K cl Hv ad (vs ++ ws) (as ++ bs)
  | _, _, _, _, .nil, s => s
  | _, _, _, _, .cons a b, s => .cons a (RepAs.append b s)
theorem RepAs.vals : ∀ {vs : List V} {ds : List D}, Reps K cl Hv vs ds → RepAs K cl Hv ad vs (ds.map A.val)
  | _, _, .nil => .nil
  | _, _, .cons a b => .cons a (RepAs.vals b)
theorem ConAt.mono (e : Ex Hv Hv') (p : Pre ad ad') {a : Addr} : ∀ {c : Con}, ConAt K cl Hv ad H a c → ConAt K cl Hv' ad' H a c
  | .lst _, ⟨xs, h, r⟩ => ⟨xs, h, r.mono e⟩
  | .dic _ _, ⟨kvs, h, q, r⟩ => ⟨kvs, h, q, r.mono e⟩
  | .dit _ _, ⟨kvs, h, q, r⟩ => ⟨kvs, h, q, r.mono e⟩
  | .ins _ _ _, ⟨dx, fs, h, q, r⟩ => ⟨dx, fs, h, q, r.mono e⟩
theorem ConAt.heap {a : Addr} (e : H' a = H a) : ∀ {c : Con}, ConAt K cl Hv ad H a c → ConAt K cl Hv ad H' a c
  | .lst _, ⟨xs, h, r⟩ => ⟨xs, e.trans h, r⟩
  | .dic _ _, ⟨kvs, h, q, r⟩ => ⟨kvs, e.trans h, q, r⟩
  | .dit _ _, ⟨kvs, h, q, r⟩ => ⟨kvs, e.trans h, q, r⟩
  | .ins _ _ _, ⟨dx, fs, h, q, r⟩ => ⟨dx, fs, e.trans h, q, r⟩
theorem ConAt.thing {a : Addr} : ∀ {c : Con}, ConAt K cl Hv ad H a c → ∃ o, H a = some o
  | .lst _, ⟨_, h, _⟩ => ⟨_, h⟩
  | .dic _ _, ⟨_, h, _⟩ => ⟨_, h⟩
  | .dit _ _, ⟨_, h, _⟩ => ⟨_, h⟩
  | .ins _ _ _, ⟨_, _, h, _⟩ => ⟨_, h⟩
theorem RepEnv.mono {σ : St} {env : Env} (e : Ex Hv Hv') (p : Pre ad ad') (h : RepEnv K cl Hv ad σ env) : RepEnv K cl Hv' ad' σ env :=
  ⟨h.len, fun i a q => let ⟨v, h1, h2⟩ := h.at_ i a q; ⟨v, h1, h2.mono e p⟩⟩
theorem RepEnv.set {σ : St} {env : Env} {v : V} {a : A} (h : RepEnv K cl Hv ad σ env) (i : Nat) (r : RepA K cl Hv ad v a) : RepEnv K cl Hv ad (σ.set i (some v)) (env.set i (some a)) := by
  refine ⟨by rw [List.length_set, List.length_set, h.len], fun j b q => ?_⟩
  by_cases hj : i = j
  · subst hj
    by_cases hl : i < env.length
    · rw [List.getElem?_set_self hl] at q
      cases q
      exact ⟨v, List.getElem?_set_self (by rw [h.len]; exact hl), r⟩
    · rw [List.getElem?_eq_none (by rw [List.length_set]; omega)] at q
      cases q
  · rw [List.getElem?_set_ne hj] at q ⊢
    exact h.at_ j b q
theorem RepEnv.unset {σ : St} {env : Env} {v : Option V} (h : RepEnv K cl Hv ad σ env) (i : Nat) : RepEnv K cl Hv ad (σ.set i v) (env.set i none) := by
  refine ⟨by rw [List.length_set, List.length_set, h.len], fun j b q => ?_⟩
  by_cases hj : i = j
  · subst hj
    by_cases hl : i < env.length
    · rw [List.getElem?_set_self hl] at q
      cases q
    · rw [List.getElem?_eq_none (by rw [List.length_set]; omega)] at q
      cases q
  · rw [List.getElem?_set_ne hj] at q ⊢
    exact h.at_ j b q
/-- a new object that is no place of the store, frozen at once -/
theorem StOk.new {S : Store} {p : Addr} {o : HO} (h : StOk K cl Hv H S ad) (hp : H p = none) : StOk K cl (upd Hv p o) (upd H p o) S ad := by
  have hvp : Hv p = none := h.ex.nn hp
  refine ⟨h.ex.both hvp, h.len, fun n c q => ?_, h.inj, h.sm.elim fun o z => z.elim fun φ z => ⟨o, φ, Ex.new hvp _ _ z⟩⟩
  obtain ⟨a, h1, h2, h3⟩ := h.at_ n c q
  obtain ⟨u, h4⟩ := h3.thing
  have ne : a ≠ p := ne_of_none h4 hp
  exact ⟨a, h1, by rw [upd_ne ne]; exact h2, (h3.mono (Ex.new hvp) (Pre.refl ad)).heap (upd_ne ne)⟩
/-- a new object that nobody sees -/
theorem StOk.hid {S : Store} {p : Addr} {o : HO} (h : StOk K cl Hv H S ad) (hp : H p = none) : StOk K cl Hv (upd H p o) S ad := by
  refine ⟨h.ex.trans (Ex.new hp), h.len, fun n c q => ?_, h.inj, h.sm⟩
  obtain ⟨a, h1, h2, h3⟩ := h.at_ n c q
  obtain ⟨u, h4⟩ := h3.thing
  exact ⟨a, h1, h2, h3.heap (upd_ne (ne_of_none h4 hp))⟩
/-- a new place of the store -/
theorem StOk.alloc {S : Store} {p : Addr} {o : HO} {c : Con} (h : StOk K cl Hv H S ad) (hp : H p = none) (hc : ConAt K cl Hv (ad ++ [p]) (upd H p o) p c) : StOk K cl Hv (upd H p o) (S ++ [some c]) (ad ++ [p]) := by
  have hvp : Hv p = none := h.ex.nn hp
  have old : ∀ (n : Nat) (x : Option Con), (S ++ [some c])[n]? = some x → n < S.length → S[n]? = some x := fun n x q hn => by
    rw [List.getElem?_append_left hn] at q
    exact q
  have new : ∀ (n : Nat) (x : Con), (S ++ [some c])[n]? = some (some x) → ¬ n < S.length → n = S.length ∧ x = c := fun n x q hn => by
    have hl := (List.getElem?_eq_some_iff.mp q).1
    rw [List.length_append, List.length_singleton] at hl
    have e : n = S.length := by omega
    subst e
    rw [List.getElem?_append_right (Nat.le_refl _)] at q
    simp at q
    exact ⟨rfl, q.symm⟩
  have pre : Pre ad (ad ++ [p]) := ⟨[p], rfl⟩
  have adl : ∀ (n : Nat) (a : Addr), (ad ++ [p])[n]? = some a → n < S.length → ad[n]? = some a := fun n a q hn => by
    rw [List.getElem?_append_left (by rw [h.len]; exact hn)] at q
    exact q
  have adn : ∀ (a : Addr), (ad ++ [p])[S.length]? = some a → a = p := fun a q => by
    rw [List.getElem?_append_right (by rw [h.len]; exact Nat.le_refl _), h.len] at q
    simp at q
    exact q.symm
  have live : ∀ (n : Nat) (x : Con) (a : Addr), S[n]? = some (some x) → ad[n]? = some a → a ≠ p := fun n x a q qa => by
    obtain ⟨a', h1, _, h3⟩ := h.at_ n x q
    rw [qa] at h1
    cases h1
    obtain ⟨u, h4⟩ := h3.thing
    exact ne_of_none h4 hp
  refine ⟨h.ex.trans (Ex.new hp), by simp [h.len], fun n x q => ?_, fun n m x y a q1 q2 a1 a2 => ?_, h.sm⟩
  · by_cases hn : n < S.length
    · obtain ⟨a, h1, h2, h3⟩ := h.at_ n x (old n _ q hn)
      exact ⟨a, pre.get h1, h2, (h3.mono (Ex.refl _) pre).heap (upd_ne (live n x a (old n _ q hn) h1))⟩
    · obtain ⟨rfl, rfl⟩ := new n x q hn
      exact ⟨p, by rw [← h.len]; simp, hvp, hc⟩
  · by_cases hn : n < S.length
    · by_cases hm : m < S.length
      · exact h.inj n m x y a (old n _ q1 hn) (old m _ q2 hm) (adl n a a1 hn) (adl m a a2 hm)
      · obtain ⟨rfl, rfl⟩ := new m y q2 hm
        exact absurd (adn a a2) (live n x a (old n _ q1 hn) (adl n a a1 hn))
    · obtain ⟨rfl, rfl⟩ := new n x q1 hn
      by_cases hm : m < S.length
      · exact absurd (adn a a1) (live m y a (old m _ q2 hm) (adl m a a2 hm))
      · obtain ⟨rfl, rfl⟩ := new m y q2 hm
        rfl
/-- a place of the store is written -/
theorem StOk.write {S : Store} {n : Nat} {a : Addr} {c c' : Con} {o : HO} (h : StOk K cl Hv H S ad) (hn : S[n]? = some (some c)) (ha : ad[n]? = some a) (hc : ConAt K cl Hv ad (upd H a o) a c') : StOk K cl Hv (upd H a o) (S.set n (some c')) ad := by
  have hln := (List.getElem?_eq_some_iff.mp hn).1
  obtain ⟨a', h1, hva, _⟩ := h.at_ n c hn
  rw [ha] at h1
  cases h1
  have back : ∀ (m : Nat) (x : Con), (S.set n (some c'))[m]? = some (some x) → n ≠ m → S[m]? = some (some x) := fun m x q hm => by
    rw [List.getElem?_set_ne hm] at q
    exact q
  have was : ∀ (m : Nat) (x : Con), (S.set n (some c'))[m]? = some (some x) → ∃ y, S[m]? = some (some y) := fun m x q => by
    by_cases hm : n = m
    · subst hm
      exact ⟨c, hn⟩
    · exact ⟨x, back m x q hm⟩
  refine ⟨fun b u e => ?_, by rw [List.length_set]; exact h.len, fun m x q => ?_, fun m k x y b q1 q2 a1 a2 => ?_, h.sm⟩
  · rw [upd_ne (ne_of_none e hva)]
    exact h.ex b u e
  · by_cases hm : n = m
    · subst hm
      rw [List.getElem?_set_self hln] at q
      cases q
      exact ⟨a, ha, hva, hc⟩
    · obtain ⟨b, h1, h2, h3⟩ := h.at_ m x (back m x q hm)
      refine ⟨b, h1, h2, h3.heap (upd_ne fun z => ?_)⟩
      subst z
      exact hm (h.inj n m c x b hn (back m x q hm) ha h1)
  · obtain ⟨x', q1'⟩ := was m x q1
    obtain ⟨y', q2'⟩ := was k y q2
    exact h.inj m k x' y' b q1' q2' a1 a2
/-- places of the store from n on are let go -/
theorem StOk.take {S : Store} (h : StOk K cl Hv H S ad) (n : Nat) : StOk K cl Hv H (S.take n) (ad.take n) := by
  have back : ∀ (m : Nat) (x : Option Con), (S.take n)[m]? = some x → m < n ∧ S[m]? = some x := fun m x q => by
    rw [List.getElem?_take] at q
    by_cases hm : m < n
    · rw [if_pos hm] at q
      exact ⟨hm, q⟩
    · rw [if_neg hm] at q
      cases q
  have adb : ∀ (m : Nat) (a : Addr), (ad.take n)[m]? = some a → ad[m]? = some a := fun m a q => by
    rw [List.getElem?_take] at q
    by_cases hm : m < n
    · rw [if_pos hm] at q
      exact q
    · rw [if_neg hm] at q
      cases q
  refine ⟨h.ex, by simp [h.len], fun m c q => ?_, fun m k x y a q1 q2 a1 a2 => h.inj m k x y a (back m _ q1).2 (back k _ q2).2 (adb m a a1) (adb k a a2), h.sm⟩
  obtain ⟨hm, q'⟩ := back m _ q
  obtain ⟨a, h1, h2, h3⟩ := h.at_ m c q'
  refine ⟨a, by rw [List.getElem?_take, if_pos hm]; exact h1, h2, ?_⟩
  cases c with
  | lst ds => exact h3
  | dic ks vs => exact h3
  | dit ks vs => exact h3
  | ins C ns as => exact h3
/-- what stands at a place, as a datum -/
def conD : Con → D
  | .lst xs => .lst xs
  | .dic ks vs => .dic ks vs
  | .dit ks vs => .dic ks vs
  | .ins C ns vs => .obj C ns vs
/-- what may be frozen as it stands | locked first -/
def Con.plain : Con → Bool
  | .dic _ _ => false
  | .dit _ _ => false
  | _ => true
theorem ConAt.rep {a : Addr} {o : HO} (hv : Hv a = none) (ho : H a = some o) : ∀ {c : Con}, c.plain = true → ConAt K cl Hv ad H a c → Rep K cl (upd Hv a o) (.ref a) (conD c)
  | .lst _, _, ⟨xs, h, r⟩ => by
    rw [ho] at h
    cases h
    exact .lst upd_same (r.mono (Ex.new hv))
  | .ins _ _ _, _, ⟨dx, fs, h, q, r⟩ => by
    rw [ho] at h
    cases h
    exact .obj upd_same q (r.mono (Ex.new hv))
theorem ConAt.repD {a : Addr} {o : Obj} {u : HO} (hv : Hv a = none) (hu : H a = some u) : ∀ {c : Con}, c.plain = false → ConAt K cl Hv ad H a c → Mut (some u) ∧ Rep K cl (upd Hv a (.frz o u)) (.ref a) (conD c)
  | .dic _ _, _, ⟨kvs, h, q, r⟩ => by
    rw [hu] at h
    cases h
    exact ⟨trivial, .dK upd_same q (r.mono (Ex.new hv))⟩
  | .dit _ _, _, ⟨kvs, h, q, r⟩ => by
    rw [hu] at h
    cases h
    exact ⟨trivial, .dT upd_same q (r.mono (Ex.new hv))⟩
/-- a place of the store is frozen: it changes no more -/
theorem StOk.freezeAs {S : Store} {n : Nat} {a : Addr} {c : Con} {o : HO} (h : StOk K cl Hv H S ad) (hn : S[n]? = some (some c)) (ha : ad[n]? = some a) : StOk K cl (upd Hv a o) (upd H a o) (S.set n none) ad := by
  have hln := (List.getElem?_eq_some_iff.mp hn).1
  obtain ⟨a', h1, hva, _⟩ := h.at_ n c hn
  rw [ha] at h1
  cases h1
  have back : ∀ (m : Nat) (x : Con), (S.set n none)[m]? = some (some x) → n ≠ m ∧ S[m]? = some (some x) := fun m x q => by
    by_cases hm : n = m
    · subst hm
      rw [List.getElem?_set_self hln] at q
      cases q
    · rw [List.getElem?_set_ne hm] at q
      exact ⟨hm, q⟩
  refine ⟨h.ex.both hva, by rw [List.length_set]; exact h.len, fun m x q => ?_, fun m k x y b q1 q2 a1 a2 => h.inj m k x y b (back m x q1).2 (back k y q2).2 a1 a2, h.sm.elim fun o z => z.elim fun φ z => ⟨o, φ, Ex.new hva _ _ z⟩⟩
  obtain ⟨hm, q'⟩ := back m x q
  obtain ⟨b, h1, h2, h3⟩ := h.at_ m x q'
  have hb : b ≠ a := fun z => by
    subst z
    exact hm (h.inj n m c x b hn q' ha h1)
  exact ⟨b, h1, by rw [upd_ne hb]; exact h2, (h3.mono (Ex.new hva) (Pre.refl _)).heap (upd_ne hb)⟩
theorem upd_self {a : Addr} {o : HO} (h : H a = some o) : upd H a o = H := by
  funext b
  by_cases hb : b = a
  · subst hb
    rw [upd_same, h]
  · rw [upd_ne hb]
theorem StOk.freeze {S : Store} {n : Nat} {a : Addr} {c : Con} {o : HO} (h : StOk K cl Hv H S ad) (hn : S[n]? = some (some c)) (ha : ad[n]? = some a) (ho : H a = some o) : StOk K cl (upd Hv a o) H (S.set n none) ad := by
  have e := h.freezeAs (o := o) hn ha
  rw [upd_self ho] at e
  exact e
end
end R


namespace R
open PySem L2

inductive Out (α : Type) where
  | ok (a : α) (S : Store)
  | exc (c : Nat) (ns : List Str) (vs : List D) (S : Store)
  | bad
def Out.bind {α β : Type} (o : Out α) (k : α → Store → Out β) : Out β := match o with
  | .ok a S => k a S
  | .exc c ns vs S => .exc c ns vs S
  | .bad => .bad
abbrev Ev (α : Type) := Env → Store → Out α

section
variable (K : PySem.W.Frag) (cl : Nat → Addr)
/-- the fields of an exception: dd its own dict -/
def ExcAt (Hv H : Hp) (ns : List Str) (vs : List D) : Option Addr → Prop
  | some d => ∃ fs, H d = some (.xd fs) ∧ HasF fs ns ∧ Reps K cl Hv (flds fs ns) vs
  | none => ns = [] ∧ vs = []
/-- what is wanted behind: R of what comes out, W of an exception -/
def Pst {α : Type} (W : WX) (σ : St) (Hv : Hp) (ad : List Addr) (R : α → Store → Hp → List Addr → Hp → Prop) : Out α → Prop
  | .ok a S' => ∀ Hv' ad' H', Ex Hv Hv' → Pre ad ad' → StOk K cl Hv' H' S' ad' → R a S' Hv' ad' H'
  | .exc c ns vs S' => ∀ Hv' ad' H' dd, Ex Hv Hv' → Pre ad ad' → StOk K cl Hv' H' S' ad' → ExcAt K cl Hv' H' ns vs dd → W (.ref (cl c)) dd σ H'
  | .bad => False
def RA (Q : VK) : A → Store → Hp → List Addr → Hp → Prop := fun a _ Hv' ad' H' => ∀ v, RepA K cl Hv' ad' v a → Q v H'
def RAs (Q : List V → Hp → Prop) : List A → Store → Hp → List Addr → Hp → Prop := fun as _ Hv' ad' H' => ∀ vs, RepAs K cl Hv' ad' vs as → Q vs H'
def RB (Q : Bool → Hp → Prop) : Bool → Store → Hp → List Addr → Hp → Prop := fun b _ _ _ H' => Q b H'
def RdE (W : WX) (t : TE) (f : Ev A) : Prop := ∀ (σ : St) (Hv H : Hp) (S : Store) (ad : List Addr) (env : Env) (Q : VK), RepEnv K cl Hv ad σ env → StOk K cl Hv H S ad → Pst K cl W σ Hv ad (RA K cl Q) (f env S) → t σ H Q
def RdA (W : WX) (t : TA) (f : Ev (List A)) : Prop := ∀ (σ : St) (Hv H : Hp) (S : Store) (ad : List Addr) (env : Env) (Q : List V → Hp → Prop), RepEnv K cl Hv ad σ env → StOk K cl Hv H S ad → Pst K cl W σ Hv ad (RAs K cl Q) (f env S) → t σ H Q
def RdT (W : WX) (t : TT) (f : Ev Bool) : Prop := ∀ (σ : St) (Hv H : Hp) (S : Store) (ad : List Addr) (env : Env) (Q : Bool → Hp → Prop), RepEnv K cl Hv ad σ env → StOk K cl Hv H S ad → Pst K cl W σ Hv ad (RB Q) (f env S) → t σ H Q
/-- an operation on two values -/
def RdO (W : WX) (r : R2) (h : A → A → Store → Out A) : Prop := ∀ (σ : St) (Hv H : Hp) (S : Store) (ad : List Addr) (x y : V) (a b : A) (Q : VK), StOk K cl Hv H S ad → RepA K cl Hv ad x a → RepA K cl Hv ad y b → Pst K cl W σ Hv ad (RA K cl Q) (h a b S) → r x y H Q
def RdU (W : WX) (r : V → Hp → VK → Prop) (h : A → Store → Out A) : Prop := ∀ (σ : St) (Hv H : Hp) (S : Store) (ad : List Addr) (x : V) (a : A) (Q : VK), StOk K cl Hv H S ad → RepA K cl Hv ad x a → Pst K cl W σ Hv ad (RA K cl Q) (h a S) → r x H Q
def RdC (W : WX) (r : List V → Hp → VK → Prop) (h : List A → Store → Out A) : Prop := ∀ (σ : St) (Hv H : Hp) (S : Store) (ad : List Addr) (xs : List V) (as : List A) (Q : VK), StOk K cl Hv H S ad → RepAs K cl Hv ad xs as → Pst K cl W σ Hv ad (RA K cl Q) (h as S) → r xs H Q
end

section
variable {K : PySem.W.Frag} {cl : Nat → Addr} {W : WX} {σ : St} {Hv Hv' H : Hp} {ad ad' : List Addr} {α β : Type}
theorem Pst.mono {R R' : α → Store → Hp → List Addr → Hp → Prop} {o : Out α} (h : Pst K cl W σ Hv ad R o)
    (k : ∀ a S' Hv' ad' H', Ex Hv Hv' → Pre ad ad' → StOk K cl Hv' H' S' ad' → R a S' Hv' ad' H' → R' a S' Hv' ad' H') : Pst K cl W σ Hv ad R' o := by
  cases o with
  | ok a S => exact fun Hv' ad' H' e p s => k a S Hv' ad' H' e p s (h Hv' ad' H' e p s)
  | exc c ns vs S => exact h
  | bad => exact h
theorem Pst.bind {R : β → Store → Hp → List Addr → Hp → Prop} {o : Out α} {k : α → Store → Out β} (h : Pst K cl W σ Hv ad R (o.bind k)) :
    Pst K cl W σ Hv ad (fun a S' Hv' ad' _ => Pst K cl W σ Hv' ad' R (k a S')) o := by
  cases o with
  | ok a S =>
    intro Hv' ad' H' e p s
    have h' : Pst K cl W σ Hv ad R (k a S) := h
    cases q : k a S with
    | ok b S2 =>
      rw [q] at h'
      exact fun Hv2 ad2 H2 e2 p2 s2 => h' Hv2 ad2 H2 (e.trans e2) (p.trans p2) s2
    | exc c ns vs S2 =>
      rw [q] at h'
      exact fun Hv2 ad2 H2 dd e2 p2 s2 x => h' Hv2 ad2 H2 dd (e.trans e2) (p.trans p2) s2 x
    | bad =>
      rw [q] at h'
      exact h'
  | exc c ns vs S => exact h
  | bad => exact h
/-- the end with nothing changed -/
theorem Pst.here {R : α → Store → Hp → List Addr → Hp → Prop} {a : α} {S : Store} (so : StOk K cl Hv H S ad) (h : Pst K cl W σ Hv ad R (.ok a S)) : R a S Hv ad H := h Hv ad H (Ex.refl _) (Pre.refl _) so
theorem Pst.hereB {Q : Bool → Hp → Prop} {b : Bool} {S : Store} (so : StOk K cl Hv H S ad) (h : Pst K cl W σ Hv ad (RB Q) (.ok b S)) : Q b H := h Hv ad H (Ex.refl _) (Pre.refl _) so
/-- the end with a new frozen object -/
theorem Pst.made {Q : VK} {d : D} {S : Store} {p : Addr} {o : HO} (so : StOk K cl Hv H S ad) (hp : H p = none) (h : Pst K cl W σ Hv ad (RA K cl Q) (.ok (.val d) S)) (r : Rep K cl (upd Hv p o) (.ref p) d) : Q (.ref p) (upd H p o) :=
  h (upd Hv p o) ad (upd H p o) (Ex.new (so.ex.nn hp)) (Pre.refl _) (so.new hp) (.ref p) r
end

/-! ### judgements -/
structure SE (X : Cx) (cl : Nat → Addr) (W : WX) (e : Expr) (f : Ev A) : Prop where
  ex : ∃ t, PE X e t ∧ RdE X.K cl W t f
structure SA (X : Cx) (cl : Nat → Addr) (W : WX) (es : List Expr) (f : Ev (List A)) : Prop where
  ex : ∃ t, PA X es t ∧ RdA X.K cl W t f
structure ST (X : Cx) (cl : Nat → Addr) (W : WX) (e : Expr) (f : Ev Bool) : Prop where
  ex : ∃ t, PT X e t ∧ RdT X.K cl W t f
structure SW (X : Cx) (cl : Nat → Addr) (W : WX) (e : Expr) (f : Ev Bool) : Prop where
  ex : ∃ t, PW X e t ∧ RdT X.K cl W t f

/-! ### evaluators -/
def eVar (i : Nat) : Ev A := fun env S => match env[i]? with
  | some (some a) => .ok a S
  | _ => .bad
def eC (d : D) : Ev A := fun _ S => .ok (.val d) S
def eOp (h : A → A → Store → Out A) (f g : Ev A) : Ev A := fun env S => (f env S).bind fun a S1 => (g env S1).bind fun b S2 => h a b S2
def eUn (h : A → Store → Out A) (f : Ev A) : Ev A := fun env S => (f env S).bind h
def eNil : Ev (List A) := fun _ S => .ok [] S
def eCons (f : Ev A) (g : Ev (List A)) : Ev (List A) := fun env S => (f env S).bind fun a S1 => (g env S1).bind fun as S2 => .ok (a :: as) S2
def eApp (h : List A → Store → Out A) (f : Ev (List A)) : Ev A := fun env S => (f env S).bind h
def tBool (f : Ev A) : Ev Bool := fun env S => (f env S).bind fun a S1 => match a with
  | .val (.bl b) => .ok b S1
  | _ => .bad
def tAndE (f g : Ev Bool) : Ev Bool := fun env S => (f env S).bind fun b S1 => match b with
  | true => g env S1
  | false => .ok false S1
def tOrE (f g : Ev Bool) : Ev Bool := fun env S => (f env S).bind fun b S1 => match b with
  | true => .ok true S1
  | false => g env S1
def tNotE (f : Ev Bool) : Ev Bool := fun env S => (f env S).bind fun b S1 => .ok (!b) S1
def eAndE (f g : Ev A) : Ev A := fun env S => (f env S).bind fun a S1 => match a with
  | .val (.bl true) => g env S1
  | .val (.bl false) => .ok (.val (.bl false)) S1
  | _ => .bad
def eOrE (f g : Ev A) : Ev A := fun env S => (f env S).bind fun a S1 => match a with
  | .val (.bl true) => .ok (.val (.bl true)) S1
  | .val (.bl false) => g env S1
  | _ => .bad
def eNotE (f : Ev A) : Ev A := fun env S => (f env S).bind fun a S1 => match a with
  | .val (.bl b) => .ok (.val (.bl (!b))) S1
  | _ => .bad
def eIfE (c : Ev Bool) (f g : Ev A) : Ev A := fun env S => (c env S).bind fun b S1 => match b with
  | true => f env S1
  | false => g env S1
/-- the values of a list of data alone -/
def vals? : List A → Option (List D)
  | [] => some []
  | .val d :: r => (vals? r).map (d :: ·)
  | .loc _ :: _ => none
def hTup (as : List A) (S : Store) : Out A := match vals? as with
  | some ds => if ds.length ≤ 100000 then .ok (.val (.tup ds)) S else .bad
  | none => .bad
def hLst (as : List A) (S : Store) : Out A := match vals? as with
  | some ds => if ds.length ≤ 100000 then .ok (.val (.lst ds)) S else .bad
  | none => .bad
/-- as a place of the store -/
def hLstN (as : List A) (S : Store) : Out A := match vals? as with
  | some ds => if ds.length ≤ 100000 then .ok (.loc S.length) (S ++ [some (.lst ds)]) else .bad
  | none => .bad

theorem sz_of {n : Nat} (h : n ≤ 100000) : n ≤ sizeLine := Nat.le_trans h (by decide)

section
variable {X : Cx} {cl : Nat → Addr} {W : WX}
theorem vals_rep {K : PySem.W.Frag} {Hv : Hp} {ad : List Addr} : ∀ {vs : List V} {as : List A} {ds : List D}, RepAs K cl Hv ad vs as → vals? as = some ds → Reps K cl Hv vs ds
  | _, _, ds, .nil, e => by
    cases e
    exact .nil
  | _, _, ds, .cons (a := .val d) (as := as) r rs, e => by
    have e2 : (vals? as).map (d :: ·) = some ds := e
    cases q : vals? as with
    | none =>
      rw [q] at e2
      cases e2
    | some es =>
      rw [q] at e2
      cases e2
      exact .cons r (vals_rep rs q)
  | _, _, ds, .cons (a := .loc n) (as := as) r rs, e => by cases e

theorem se_var (i : Nat) {x : Str} {pos : Pos} (hN : X.N[i]? = some x := by rfl) (hv : Vis X.env.scope x := by first | exact Or.inl rfl | exact Or.inr (Or.inl rfl) | exact Or.inr (Or.inr rfl)) (hd : (x == ("__debug__" : Str)) = false := by decide)
    (hcd : (x == ("__classdict__" : Str)) = false := by decide) : SE X cl W (.Name x pos) (eVar i) := by
  refine ⟨tVar i, pe_var hN hv hd hcd, fun σ Hv H S ad env Q re so h => ?_⟩
  unfold eVar at h
  split at h
  · rename_i a e
    obtain ⟨v, h1, h2⟩ := re.at_ i a e
    exact ⟨v, h1, h.here so v h2⟩
  · exact h.elim
theorem rd_c {v : V} {d : D} (r : ∀ Hv, Rep X.K cl Hv v d) : RdE X.K cl W (tC v) (eC d) := fun σ Hv H S ad env Q re so h => h.here so v (r Hv)
theorem se_int {i : Int} {j : Nat} {pos : Pos} : SE X cl W (.Constant (.int i) j pos) (eC (.int i)) := ⟨_, pe_int, rd_c fun _ => .int⟩
theorem se_str {x : Str} {j : Nat} {pos : Pos} : SE X cl W (.Constant (.str x) j pos) (eC (.str x)) := ⟨_, pe_str, rd_c fun _ => .str⟩
theorem se_bl {b : Bool} {j : Nat} {pos : Pos} : SE X cl W (.Constant (.bool b) j pos) (eC (.bl b)) := ⟨_, pe_bl, rd_c fun _ => .bl⟩
theorem se_non {j : Nat} {pos : Pos} : SE X cl W (.Constant .none j pos) (eC .non) := ⟨_, pe_non, rd_c fun _ => .non⟩

theorem rd_op {r : R2} {ta tb : TE} {f g : Ev A} {h : A → A → Store → Out A} (ha : RdE X.K cl W ta f) (hb : RdE X.K cl W tb g) (ho : RdO X.K cl W r h) : RdE X.K cl W (tOp r ta tb) (eOp h f g) := fun σ Hv H S ad env Q re so q =>
  ha σ Hv H S ad env _ re so (q.bind.mono fun a S1 Hv1 ad1 H1 e1 p1 s1 q1 v1 r1 =>
    hb σ Hv1 H1 S1 ad1 env _ (re.mono e1 p1) s1 (q1.bind.mono fun b S2 Hv2 ad2 H2 e2 p2 s2 q2 v2 r2 =>
      ho σ Hv2 H2 S2 ad2 v1 v2 a b Q s2 (r1.mono e2 p2) r2 q2))
theorem se_op {op : Operator} {a b : Expr} {pos : Pos} {f g : Ev A} {h : A → A → Store → Out A} (hop : ∃ r, OpR X (binaryOp op) r ∧ RdO X.K cl W r h) (ha : SE X cl W a f) (hb : SE X cl W b g) : SE X cl W (.BinOp a op b pos) (eOp h f g) :=
  let ⟨_, pa, ra⟩ := ha.ex
  let ⟨_, pb, rb⟩ := hb.ex
  let ⟨_, h1, h2⟩ := hop
  ⟨_, pe_op h1 pa pb, rd_op ra rb h2⟩
theorem se_cmp {op : CmpOp} {a b : Expr} {pos : Pos} {f g : Ev A} {h : A → A → Store → Out A} (hop : ∃ r, OpR X (compareOp op) r ∧ RdO X.K cl W r h) (ha : SE X cl W a f) (hb : SE X cl W b g) (hm : behindInMarks op b = false := by first | exact nomark _ | rfl) : SE X cl W (.Compare a [op] [b] pos) (eOp h f g) :=
  let ⟨_, pa, ra⟩ := ha.ex
  let ⟨_, pb, rb⟩ := hb.ex
  let ⟨_, h1, h2⟩ := hop
  ⟨_, pe_cmpR h1 pa pb hm, rd_op ra rb h2⟩
theorem st_cmp {op : CmpOp} {a b : Expr} {pos : Pos} {f g : Ev A} {h : A → A → Store → Out A} (hop : ∃ r, OpR X (compareOp op) r ∧ RdO X.K cl W r h) (ha : SE X cl W a f) (hb : SE X cl W b g) (hm : behindInMarks op b = false := by first | exact nomark _ | rfl) : ST X cl W (.Compare a [op] [b] pos) (tBool (eOp h f g)) := by
  obtain ⟨_, pa, ra⟩ := ha.ex
  obtain ⟨_, pb, rb⟩ := hb.ex
  obtain ⟨_, h1, h2⟩ := hop
  refine ⟨_, pt_cmpR h1 pa pb hm, fun σ Hv H S ad env Q re so q => ?_⟩
  refine rd_op ra rb h2 σ Hv H S ad env _ re so (q.bind.mono fun z S1 Hv1 ad1 H1 e1 p1 s1 q1 v1 r1 => ?_)
  split at q1
  · rename_i b
    cases r1
    exact ⟨b, rfl, q1.hereB s1⟩
  · exact q1.elim
theorem se_un {op : UnaryOp} {a : Expr} {pos : Pos} {f : Ev A} {h : A → Store → Out A} (hop : ∃ r, UnR X (unaryOp op) r ∧ RdU X.K cl W r h) (ha : SE X cl W a f) : SE X cl W (.UnaryOp op a pos) (eUn h f) := by
  obtain ⟨_, pa, ra⟩ := ha.ex
  obtain ⟨_, h1, h2⟩ := hop
  refine ⟨_, pe_un h1 pa, fun σ Hv H S ad env Q re so q => ?_⟩
  exact ra σ Hv H S ad env _ re so (q.bind.mono fun a S1 Hv1 ad1 H1 e1 p1 s1 q1 v1 r1 => h2 σ Hv1 H1 S1 ad1 v1 a Q s1 r1 q1)

theorem sa_nil : SA X cl W [] eNil := ⟨_, pa_nil, fun σ Hv H S ad env Q re so h => h.here so [] .nil⟩
theorem sa_cons {e : Expr} {es : List Expr} {f : Ev A} {g : Ev (List A)} (ha : SE X cl W e f) (hr : SA X cl W es g) (hs : starEach (e :: es) X.env = (false, eval e X.env) :: starEach es X.env := by rfl) : SA X cl W (e :: es) (eCons f g) := by
  obtain ⟨_, pa, ra⟩ := ha.ex
  obtain ⟨_, pb, rb⟩ := hr.ex
  refine ⟨_, pa_cons pa pb hs, fun σ Hv H S ad env Q re so q => ?_⟩
  exact ra σ Hv H S ad env _ re so (q.bind.mono fun a S1 Hv1 ad1 H1 e1 p1 s1 q1 v1 r1 =>
    rb σ Hv1 H1 S1 ad1 env _ (re.mono e1 p1) s1 (q1.bind.mono fun as S2 Hv2 ad2 H2 e2 p2 s2 q2 vs r2 => q2.here s2 (v1 :: vs) (.cons (r1.mono e2 p2) r2)))
theorem se_tup {es : List Expr} {x1 : Nat} {pos : Pos} {f : Ev (List A)} (ha : SA X cl W es f) : SE X cl W (.Tuple es x1 pos) (eApp hTup f) := by
  obtain ⟨_, pa, ra⟩ := ha.ex
  refine ⟨_, pe_tup pa, fun σ Hv H S ad env Q re so q => ?_⟩
  refine ra σ Hv H S ad env _ re so (q.bind.mono fun as S1 Hv1 ad1 H1 e1 p1 s1 q1 vs r1 => ?_)
  unfold hTup at q1
  split at q1
  · rename_i ds e
    have rs := vals_rep r1 e
    by_cases hl : ds.length ≤ 100000
    · rw [if_pos hl] at q1
      refine ⟨sz_of (by rw [rs.length]; exact hl), fun p hp => q1.made s1 hp (.tup (.inl (.inl upd_same)) (rs.mono (Ex.new (s1.ex.nn hp))))⟩
    · rw [if_neg hl] at q1
      exact q1.elim
  · exact q1.elim
theorem se_lst {es : List Expr} {pos : Pos} {f : Ev (List A)} (ha : SA X cl W es f) : SE X cl W (.List es pos) (eApp hLst f) := by
  obtain ⟨_, pa, ra⟩ := ha.ex
  refine ⟨_, pe_lst pa, fun σ Hv H S ad env Q re so q => ?_⟩
  refine ra σ Hv H S ad env _ re so (q.bind.mono fun as S1 Hv1 ad1 H1 e1 p1 s1 q1 vs r1 => ?_)
  unfold hLst at q1
  split at q1
  · rename_i ds e
    have rs := vals_rep r1 e
    by_cases hl : ds.length ≤ 100000
    · rw [if_pos hl] at q1
      refine ⟨sz_of (by rw [rs.length]; exact hl), fun p hp => q1.made s1 hp (.lst upd_same (rs.mono (Ex.new (s1.ex.nn hp))))⟩
    · rw [if_neg hl] at q1
      exact q1.elim
  · exact q1.elim
theorem se_lstN {es : List Expr} {pos : Pos} {f : Ev (List A)} (ha : SA X cl W es f) : SE X cl W (.List es pos) (eApp hLstN f) := by
  obtain ⟨_, pa, ra⟩ := ha.ex
  refine ⟨_, pe_lst pa, fun σ Hv H S ad env Q re so q => ?_⟩
  refine ra σ Hv H S ad env _ re so (q.bind.mono fun as S1 Hv1 ad1 H1 e1 p1 s1 q1 vs r1 => ?_)
  unfold hLstN at q1
  split at q1
  · rename_i ds e
    have rs := vals_rep r1 e
    by_cases hl : ds.length ≤ 100000
    · rw [if_pos hl] at q1
      refine ⟨sz_of (by rw [rs.length]; exact hl), fun p hp => q1 Hv1 (ad1 ++ [p]) (upd H1 p (.lst vs)) (Ex.refl _) ⟨[p], rfl⟩ (s1.alloc hp ⟨vs, upd_same, rs⟩) (.ref p) ⟨p, rfl, by rw [← s1.len]; simp⟩⟩
    · rw [if_neg hl] at q1
      exact q1.elim
  · exact q1.elim

/-! ### tests -/
theorem rd_tb {t : TE} {f : Ev A} (h : RdE X.K cl W t f) : RdT X.K cl W (tB t) (tBool f) := fun σ Hv H S ad env Q re so q =>
  h σ Hv H S ad env _ re so (q.bind.mono fun z S1 Hv1 ad1 H1 e1 p1 s1 q1 v1 r1 => by
    split at q1
    · rename_i b
      cases r1
      exact ⟨b, rfl, q1.hereB s1⟩
    · exact q1.elim)
theorem st_val {e : Expr} {f : Ev A} (h : SE X cl W e f) (he : ∀ whole, isTrue e X.env whole = (do let v ← whole; standAt e.pos; holding [v] (truthy v)) := by intro _; rfl) : ST X cl W e (tBool f) :=
  let ⟨_, p, r⟩ := h.ex
  ⟨_, pt_val p he, rd_tb r⟩
theorem st_not {a : Expr} {pos : Pos} {f : Ev Bool} (h : ST X cl W a f) : ST X cl W (.UnaryOp .Not a pos) (tNotE f) :=
  let ⟨_, p, r⟩ := h.ex
  ⟨_, pt_not p, fun σ Hv H S ad env Q re so q => r σ Hv H S ad env _ re so (q.bind.mono fun _ _ _ _ _ _ _ s1 q1 => q1.hereB s1)⟩
theorem rd_and {t u : TT} {f g : Ev Bool} (h1 : RdT X.K cl W t f) (h2 : RdT X.K cl W u g) : RdT X.K cl W (tAnd t u) (tAndE f g) := fun σ Hv H S ad env Q re so q =>
  h1 σ Hv H S ad env _ re so (q.bind.mono fun b S1 Hv1 ad1 H1 e1 p1 s1 q1 => by
    cases b with
    | true => exact h2 σ Hv1 H1 S1 ad1 env Q (re.mono e1 p1) s1 q1
    | false => exact q1.hereB s1)
theorem rd_or {t u : TT} {f g : Ev Bool} (h1 : RdT X.K cl W t f) (h2 : RdT X.K cl W u g) : RdT X.K cl W (tOr t u) (tOrE f g) := fun σ Hv H S ad env Q re so q =>
  h1 σ Hv H S ad env _ re so (q.bind.mono fun b S1 Hv1 ad1 H1 e1 p1 s1 q1 => by
    cases b with
    | true => exact q1.hereB s1
    | false => exact h2 σ Hv1 H1 S1 ad1 env Q (re.mono e1 p1) s1 q1)
variable {a b c : Expr} {rest : List Expr} {pos : Pos}
theorem sw_and1 {f : Ev Bool} (h : ST X cl W a f) : SW X cl W (.BoolOp .And [a] pos) f := let ⟨_, p, r⟩ := h.ex; ⟨_, pw_and1 p, r⟩
theorem sw_or1 {f : Ev Bool} (h : ST X cl W a f) : SW X cl W (.BoolOp .Or [a] pos) f := let ⟨_, p, r⟩ := h.ex; ⟨_, pw_or1 p, r⟩
theorem sw_and {f g : Ev Bool} (h : ST X cl W a f) (k : SW X cl W (.BoolOp .And (b :: rest) pos) g) : SW X cl W (.BoolOp .And (a :: b :: rest) pos) (tAndE f g) := let ⟨_, p, r⟩ := h.ex; let ⟨_, p2, r2⟩ := k.ex; ⟨_, pw_and p p2, rd_and r r2⟩
theorem sw_or {f g : Ev Bool} (h : ST X cl W a f) (k : SW X cl W (.BoolOp .Or (b :: rest) pos) g) : SW X cl W (.BoolOp .Or (a :: b :: rest) pos) (tOrE f g) := let ⟨_, p, r⟩ := h.ex; let ⟨_, p2, r2⟩ := k.ex; ⟨_, pw_or p p2, rd_or r r2⟩
theorem SW.pt {f : Ev Bool} (h : SW X cl W a f) : ST X cl W a f := let ⟨_, p, r⟩ := h.ex; ⟨_, p.pt, r⟩
theorem se_one {op : BoolOp} {f : Ev A} (h : SE X cl W a f) : SE X cl W (.BoolOp op [a] pos) f := let ⟨_, p, r⟩ := h.ex; ⟨_, pe_one p, r⟩
theorem se_and {f g : Ev A} (h : SE X cl W a f) (k : SE X cl W (.BoolOp .And (b :: rest) pos) g) : SE X cl W (.BoolOp .And (a :: b :: rest) pos) (eAndE f g) := by
  obtain ⟨_, p, r⟩ := h.ex
  obtain ⟨_, p2, r2⟩ := k.ex
  refine ⟨_, pe_and p p2, fun σ Hv H S ad env Q re so q => ?_⟩
  refine r σ Hv H S ad env _ re so (q.bind.mono fun z S1 Hv1 ad1 H1 e1 p1 s1 q1 v1 r1 => ?_)
  split at q1
  · cases r1
    exact ⟨true, rfl, r2 σ Hv1 H1 S1 ad1 env Q (re.mono e1 p1) s1 q1⟩
  · cases r1
    exact ⟨false, rfl, q1.here s1 _ .bl⟩
  · exact q1.elim
theorem se_or {f g : Ev A} (h : SE X cl W a f) (k : SE X cl W (.BoolOp .Or (b :: rest) pos) g) : SE X cl W (.BoolOp .Or (a :: b :: rest) pos) (eOrE f g) := by
  obtain ⟨_, p, r⟩ := h.ex
  obtain ⟨_, p2, r2⟩ := k.ex
  refine ⟨_, pe_or p p2, fun σ Hv H S ad env Q re so q => ?_⟩
  refine r σ Hv H S ad env _ re so (q.bind.mono fun z S1 Hv1 ad1 H1 e1 p1 s1 q1 v1 r1 => ?_)
  split at q1
  · cases r1
    exact ⟨true, rfl, q1.here s1 _ .bl⟩
  · cases r1
    exact ⟨false, rfl, r2 σ Hv1 H1 S1 ad1 env Q (re.mono e1 p1) s1 q1⟩
  · exact q1.elim
theorem se_not {f : Ev A} (h : SE X cl W a f) : SE X cl W (.UnaryOp .Not a pos) (eNotE f) := by
  obtain ⟨_, p, r⟩ := h.ex
  refine ⟨_, pe_not p, fun σ Hv H S ad env Q re so q => ?_⟩
  refine r σ Hv H S ad env _ re so (q.bind.mono fun z S1 Hv1 ad1 H1 e1 p1 s1 q1 v1 r1 => ?_)
  split at q1
  · cases r1
    exact ⟨_, rfl, q1.here s1 _ .bl⟩
  · exact q1.elim
theorem se_if {ft : Ev Bool} {f g : Ev A} (hc : ST X cl W c ft) (h : SE X cl W a f) (k : SE X cl W b g) : SE X cl W (.IfExp c a b pos) (eIfE ft f g) := by
  obtain ⟨_, p0, r0⟩ := hc.ex
  obtain ⟨_, p, r⟩ := h.ex
  obtain ⟨_, p2, r2⟩ := k.ex
  refine ⟨_, pe_ifExp p0 p p2, fun σ Hv H S ad env Q re so q => ?_⟩
  refine r0 σ Hv H S ad env _ re so (q.bind.mono fun z S1 Hv1 ad1 H1 e1 p1 s1 q1 => ?_)
  cases z with
  | true => exact r σ Hv1 H1 S1 ad1 env Q (re.mono e1 p1) s1 q1
  | false => exact r2 σ Hv1 H1 S1 ad1 env Q (re.mono e1 p1) s1 q1
end
end R


namespace R
open PySem L2

inductive Fl where
  | nx (env : Env) | rt (a : A) | bk (env : Env) | ct (env : Env)
inductive OutS where
  | ok (f : Fl) (S : Store)
  | exc (c : Nat) (ns : List Str) (vs : List D) (env : Env) (S : Store)
  | bad
abbrev Sv := Env → Store → OutS
def Out.bindS {α : Type} (o : Out α) (env : Env) (k : α → Store → OutS) : OutS := match o with
  | .ok a S => k a S
  | .exc c ns vs S => .exc c ns vs env S
  | .bad => .bad
def OutS.seq (o : OutS) (k : Sv) : OutS := match o with
  | .ok (.nx env) S => k env S
  | .ok (.rt a) S => .ok (.rt a) S
  | .ok (.bk env) S => .ok (.bk env) S
  | .ok (.ct env) S => .ok (.ct env) S
  | .exc c ns vs env S => .exc c ns vs env S
  | .bad => .bad

section
variable (K : PySem.W.Frag) (cl : Nat → Addr)
def PstS (W : WX) (Hv : Hp) (ad : List Addr) (Dn : Ends) : OutS → Prop
  | .ok (.nx env) S' => ∀ σ' Hv' ad' H', Ex Hv Hv' → Pre ad ad' → StOk K cl Hv' H' S' ad' → RepEnv K cl Hv' ad' σ' env → Dn.nx σ' H'
  | .ok (.rt a) S' => ∀ v Hv' ad' H', Ex Hv Hv' → Pre ad ad' → StOk K cl Hv' H' S' ad' → RepA K cl Hv' ad' v a → Dn.rt v H'
  | .ok (.bk env) S' => ∀ σ' Hv' ad' H', Ex Hv Hv' → Pre ad ad' → StOk K cl Hv' H' S' ad' → RepEnv K cl Hv' ad' σ' env → Dn.bk σ' H'
  | .ok (.ct env) S' => ∀ σ' Hv' ad' H', Ex Hv Hv' → Pre ad ad' → StOk K cl Hv' H' S' ad' → RepEnv K cl Hv' ad' σ' env → Dn.ct σ' H'
  | .exc c ns vs env S' => ∀ σ' Hv' ad' H' dd, Ex Hv Hv' → Pre ad ad' → StOk K cl Hv' H' S' ad' → RepEnv K cl Hv' ad' σ' env → ExcAt K cl Hv' H' ns vs dd → W (.ref (cl c)) dd σ' H'
  | .bad => False
def RdS (W : WX) (t : TS) (f : Sv) : Prop := ∀ (σ : St) (Hv H : Hp) (S : Store) (ad : List Addr) (env : Env) (Dn : Ends), RepEnv K cl Hv ad σ env → StOk K cl Hv H S ad → PstS K cl W Hv ad Dn (f env S) → t Dn σ H
/-- a target -/
def RdG (W : WX) (t : TG) (g : A → Ev Env) : Prop := ∀ (σ : St) (Hv H : Hp) (S : Store) (ad : List Addr) (env : Env) (v : V) (a : A) (Q : St → Hp → Prop), RepEnv K cl Hv ad σ env → StOk K cl Hv H S ad → RepA K cl Hv ad v a →
  Pst K cl W σ Hv ad (fun env' _ Hv' ad' H' => ∀ σ', RepEnv K cl Hv' ad' σ' env' → Q σ' H') (g a env S) → t v σ H Q
def RdGs (W : WX) (t : TGs) (g : List A → Ev Env) : Prop := ∀ (σ : St) (Hv H : Hp) (S : Store) (ad : List Addr) (env : Env) (vs : List V) (as : List A) (Q : St → Hp → Prop), RepEnv K cl Hv ad σ env → StOk K cl Hv H S ad → RepAs K cl Hv ad vs as →
  Pst K cl W σ Hv ad (fun env' _ Hv' ad' H' => ∀ σ', RepEnv K cl Hv' ad' σ' env' → Q σ' H') (g as env S) → t vs σ H Q
end

section
variable {K : PySem.W.Frag} {cl : Nat → Addr} {W : WX} {σ : St} {Hv Hv' H : Hp} {ad ad' : List Addr} {α β : Type}
theorem PstS.up {Dn : Ends} {o : OutS} (e : Ex Hv Hv') (p : Pre ad ad') (h : PstS K cl W Hv ad Dn o) : PstS K cl W Hv' ad' Dn o := by
  cases o with
  | ok f S =>
    cases f with
    | nx env => exact fun σ2 Hv2 ad2 H2 e2 p2 => h σ2 Hv2 ad2 H2 (e.trans e2) (p.trans p2)
    | rt a => exact fun σ2 Hv2 ad2 H2 e2 p2 => h σ2 Hv2 ad2 H2 (e.trans e2) (p.trans p2)
    | bk env => exact fun σ2 Hv2 ad2 H2 e2 p2 => h σ2 Hv2 ad2 H2 (e.trans e2) (p.trans p2)
    | ct env => exact fun σ2 Hv2 ad2 H2 e2 p2 => h σ2 Hv2 ad2 H2 (e.trans e2) (p.trans p2)
  | exc c ns vs env S => exact fun σ2 Hv2 ad2 H2 dd e2 p2 => h σ2 Hv2 ad2 H2 dd (e.trans e2) (p.trans p2)
  | bad => exact h
/-- an expression, then the rest -/
theorem PstS.bind {env : Env} {Dn : Ends} {o : Out α} {k : α → Store → OutS} (re : RepEnv K cl Hv ad σ env) (h : PstS K cl W Hv ad Dn (o.bindS env k)) :
    Pst K cl W σ Hv ad (fun a S' Hv' ad' _ => PstS K cl W Hv' ad' Dn (k a S')) o := by
  cases o with
  | ok a S => exact fun Hv' ad' H' e p s => h.up e p
  | exc c ns vs S => exact fun Hv' ad' H' dd e p s x => h σ Hv' ad' H' dd e p s (re.mono e p) x
  | bad => exact h
theorem Pst.up {R : α → Store → Hp → List Addr → Hp → Prop} {o : Out α} (e : Ex Hv Hv') (p : Pre ad ad') (h : Pst K cl W σ Hv ad R o) : Pst K cl W σ Hv' ad' R o := by
  cases o with
  | ok a S => exact fun Hv2 ad2 H2 e2 p2 => h Hv2 ad2 H2 (e.trans e2) (p.trans p2)
  | exc c ns vs S => exact fun Hv2 ad2 H2 dd e2 p2 => h Hv2 ad2 H2 dd (e.trans e2) (p.trans p2)
  | bad => exact h
end

structure SS (X : Cx) (cl : Nat → Addr) (W : WX) (st : Stmt) (f : Sv) : Prop where
  ex : ∃ t, PS X st t ∧ RdS X.K cl W t f
structure SSs (X : Cx) (cl : Nat → Addr) (W : WX) (st : List Stmt) (f : Sv) : Prop where
  ex : ∃ t, PSs X st t ∧ RdS X.K cl W t f
structure SG (X : Cx) (cl : Nat → Addr) (W : WX) (tg : Expr) (g : A → Ev Env) : Prop where
  ex : ∃ t, PG X tg t ∧ RdG X.K cl W t g
structure SGs (X : Cx) (cl : Nat → Addr) (W : WX) (tgs : List Expr) (g : List A → Ev Env) : Prop where
  ex : ∃ t, PGs X tgs t ∧ RdGs X.K cl W t g

/-! ### evaluators -/
def sNext : Sv := fun env S => .ok (.nx env) S
def sSeq (f g : Sv) : Sv := fun env S => (f env S).seq g
def sDrop (f : Ev A) : Sv := fun env S => (f env S).bindS env fun _ S1 => .ok (.nx env) S1
def sRet (f : Ev A) : Sv := fun env S => (f env S).bindS env fun a S1 => .ok (.rt a) S1
def sRetN : Sv := fun _ S => .ok (.rt (.val .non)) S
def sSet (i : Nat) (f : Ev A) : Sv := fun env S => (f env S).bindS env fun a S1 => .ok (.nx (env.set i (some a))) S1
def sIf (c : Ev Bool) (f g : Sv) : Sv := fun env S => (c env S).bindS env fun b S1 => match b with
  | true => f env S1
  | false => g env S1
def sPar (i j : Nat) (f : Ev (List A)) : Sv := fun env S => (f env S).bindS env fun as S1 => match as with
  | [a, b] => .ok (.nx ((env.set i (some a)).set j (some b))) S1
  | _ => .bad
def sPar3 (i j l : Nat) (f : Ev (List A)) : Sv := fun env S => (f env S).bindS env fun as S1 => match as with
  | [a, b, c] => .ok (.nx (((env.set i (some a)).set j (some b)).set l (some c))) S1
  | _ => .bad
def sAsg (f : Ev A) (g : A → Ev Env) : Sv := fun env S => (f env S).bindS env fun a S1 => (g a env S1).bindS env fun env' S2 => .ok (.nx env') S2
def sBreak : Sv := fun env S => .ok (.bk env) S
def sCont : Sv := fun env S => .ok (.ct env) S
/-- targets -/
def gSet (i : Nat) : A → Ev Env := fun a env S => .ok (env.set i (some a)) S
def gNone : List A → Ev Env := fun as env S => match as with
  | [] => .ok env S
  | _ => .bad
def gMore (g : A → Ev Env) (k : List A → Ev Env) : List A → Ev Env := fun as env S => match as with
  | a :: r => (g a env S).bind fun env' S1 => k r env' S1
  | [] => .bad
/-- (a, b, ..) = a tuple -/
def gTupE (n : Nat) (k : List A → Ev Env) : A → Ev Env := fun a env S => match a with
  | .val (.tup ds) => if ds.length = n then k (ds.map A.val) env S else .bad
  | _ => .bad
/-- the place of the store that f tells -/
def atLoc (S : Store) : A → Option (Nat × Con)
  | .loc n => match S[n]? with
    | some (some c) => some (n, c)
    | _ => none
  | .val _ => none
/-- freeze what a place holds -/
def hFrz (a : A) (S : Store) : Out A := match a with
  | .val d => .ok (.val d) S
  | .loc n => match S[n]? with
    | some (some c) => .ok (.val (conD c)) (S.set n none)
    | _ => .bad
def eFrz (f : Ev A) : Ev A := fun env S => (f env S).bind hFrz

section
variable {X : Cx} {cl : Nat → Addr} {W : WX} {pos : Pos}
/-- the value, or what it stands for locked for ever -/
def tFrz (t : TE) : TE := fun σ H Q => t σ H fun v H1 => Q v H1 ∨ ∃ d u, H1 d = some u ∧ Mut (some u) ∧ ∀ od, Q v (upd H1 d (.frz od u))
theorem pe_frz {e : Expr} {t : TE} (h : PE X e t) : PE X e (tFrz t) := by
  refine ⟨fun pins s σ H Q I hw => thn (h.run pins s σ H _ I hw) fun v s1 ⟨x, H1, I1, r, q⟩ => ?_⟩
  rcases q with q | ⟨d, u, hd, mu, q⟩
  · exact ⟨x, H1, I1, r, q⟩
  · obtain ⟨od, I2⟩ := I1.lock hd mu
    exact ⟨x, _, I2, r, q od⟩
theorem rd_frz {σ : St} {Hv H : Hp} {S : Store} {ad : List Addr} {v : V} {a : A} {Q : VK} (so : StOk X.K cl Hv H S ad) (r : RepA X.K cl Hv ad v a) (q : Pst X.K cl W σ Hv ad (RA X.K cl Q) (hFrz a S)) : Q v H ∨ ∃ d u, H d = some u ∧ Mut (some u) ∧ ∀ od, Q v (upd H d (.frz od u)) := by
  cases a with
  | val d => exact .inl (q.here so v r)
  | loc n =>
    obtain ⟨x, rfl, hx⟩ := r
    unfold hFrz at q
    dsimp only at q
    split at q
    · rename_i c e
      obtain ⟨x', h1, h2, h3⟩ := so.at_ n c e
      rw [hx] at h1
      cases h1
      obtain ⟨o, ho⟩ := h3.thing
      cases c with
      | lst ds => exact .inl (q _ ad H (Ex.new h2) (Pre.refl _) (so.freeze e hx ho) (.ref x) (h3.rep h2 ho rfl))
      | ins C ns vs => exact .inl (q _ ad H (Ex.new h2) (Pre.refl _) (so.freeze e hx ho) (.ref x) (h3.rep h2 ho rfl))
      | dic ks vs =>
        refine .inr ⟨x, o, ho, (h3.repD (o := default) h2 ho rfl).1, fun od => ?_⟩
        exact q _ ad _ (Ex.new h2) (Pre.refl _) (so.freezeAs e hx) (.ref x) (h3.repD h2 ho rfl).2
      | dit ks vs =>
        refine .inr ⟨x, o, ho, (h3.repD (o := default) h2 ho rfl).1, fun od => ?_⟩
        exact q _ ad _ (Ex.new h2) (Pre.refl _) (so.freezeAs e hx) (.ref x) (h3.repD h2 ho rfl).2
    · exact q.elim
theorem se_frz {e : Expr} {f : Ev A} (h : SE X cl W e f) : SE X cl W e (eFrz f) :=
  let ⟨_, p, r⟩ := h.ex
  ⟨_, pe_frz p, fun σ Hv H S ad env Q re so q => r σ Hv H S ad env _ re so (q.bind.mono fun a S1 Hv1 ad1 H1 e1 p1 s1 q1 v1 r1 => rd_frz s1 r1 q1)⟩

theorem sss_nil : SSs X cl W [] sNext := ⟨_, pss_nil, fun σ Hv H S ad env Dn re so q => q σ Hv ad H (Ex.refl _) (Pre.refl _) so re⟩
theorem rd_seq {t u : TS} {f g : Sv} (h1 : RdS X.K cl W t f) (h2 : RdS X.K cl W u g) : RdS X.K cl W (tSeq t u) (sSeq f g) := fun σ Hv H S ad env Dn re so q => by
  refine h1 σ Hv H S ad env _ re so ?_
  have q' : PstS X.K cl W Hv ad Dn ((f env S).seq g) := q
  cases e : f env S with
  | ok fl S1 =>
    rw [e] at q'
    cases fl with
    | nx env1 => exact fun σ1 Hv1 ad1 H1 e1 p1 s1 re1 => h2 σ1 Hv1 H1 S1 ad1 env1 Dn re1 s1 (q'.up e1 p1)
    | rt a => exact q'
    | bk env1 => exact q'
    | ct env1 => exact q'
  | exc c ns vs env1 S1 =>
    rw [e] at q'
    exact q'
  | bad =>
    rw [e] at q'
    exact q'
theorem sss_cons {st : Stmt} {rest : List Stmt} {f g : Sv} (h1 : SS X cl W st f) (h2 : SSs X cl W rest g) : SSs X cl W (st :: rest) (sSeq f g) := let ⟨_, p, r⟩ := h1.ex; let ⟨_, p2, r2⟩ := h2.ex; ⟨_, pss_cons p p2, rd_seq r r2⟩
theorem sss_one {st : Stmt} {f : Sv} (h1 : SS X cl W st f) : SSs X cl W [st] f := let ⟨_, p, r⟩ := h1.ex; ⟨_, pss_one p, r⟩
theorem ss_pass : SS X cl W (.Pass pos) sNext := ⟨_, ps_pass, fun σ Hv H S ad env Dn re so q => q σ Hv ad H (Ex.refl _) (Pre.refl _) so re⟩
theorem ss_break : SS X cl W (.Break pos) sBreak := ⟨_, ps_break, fun σ Hv H S ad env Dn re so q => q σ Hv ad H (Ex.refl _) (Pre.refl _) so re⟩
theorem ss_continue : SS X cl W (.Continue pos) sCont := ⟨_, ps_continue, fun σ Hv H S ad env Dn re so q => q σ Hv ad H (Ex.refl _) (Pre.refl _) so re⟩
theorem ss_expr {e : Expr} {f : Ev A} (h : SE X cl W e f) (hs : swapsWith e none pos.line X.env = pure false := by rfl) : SS X cl W (.Expr e pos) (sDrop f) :=
  let ⟨_, p, r⟩ := h.ex
  ⟨_, ps_expr p hs, fun σ Hv H S ad env Dn re so q => r σ Hv H S ad env _ re so ((q.bind re).mono fun a S1 Hv1 ad1 H1 e1 p1 s1 q1 v1 r1 => q1 σ Hv1 ad1 H1 (Ex.refl _) (Pre.refl _) s1 (re.mono e1 p1))⟩
theorem ss_ret {e : Expr} {f : Ev A} (h : SE X cl W e f) : SS X cl W (.Return (some e) pos) (sRet f) :=
  let ⟨_, p, r⟩ := h.ex
  ⟨_, ps_ret p, fun σ Hv H S ad env Dn re so q => r σ Hv H S ad env _ re so ((q.bind re).mono fun a S1 Hv1 ad1 H1 e1 p1 s1 q1 v1 r1 => q1 v1 Hv1 ad1 H1 (Ex.refl _) (Pre.refl _) s1 r1)⟩
theorem ss_retN : SS X cl W (.Return none pos) sRetN := ⟨_, ps_retN, fun σ Hv H S ad env Dn re so q => q .non Hv ad H (Ex.refl _) (Pre.refl _) so .non⟩
theorem ss_set (i : Nat) {x : Str} {e : Expr} {pos' : Pos} {f : Ev A} (hN : X.N.Nodup) (h : SE X cl W e f) (hi : X.N[i]? = some x := by rfl) (hx : Loc X.env.scope x := by first | exact Or.inl rfl | exact Or.inr rfl) (hs : swapsWith e (some (.Name x pos')) pos.line X.env = pure false := by rfl)
    (hf : X.fn x = true ∨ X.env.scope.names.lookup x = some .local := by first | exact .inl rfl | exact .inr rfl | assumption) : SS X cl W (.Assign [.Name x pos'] e pos) (sSet i f) :=
  let ⟨_, p, r⟩ := h.ex
  ⟨_, ps_set hN hi hx p hs hf, fun σ Hv H S ad env Dn re so q => r σ Hv H S ad env _ re so ((q.bind re).mono fun a S1 Hv1 ad1 H1 e1 p1 s1 q1 v1 r1 => q1 _ Hv1 ad1 H1 (Ex.refl _) (Pre.refl _) s1 ((re.mono e1 p1).set i r1))⟩
theorem ss_if {c : Expr} {sa sb : List Stmt} {ft : Ev Bool} {f g : Sv} (hc : ST X cl W c ft) (h : SSs X cl W sa f) (k : SSs X cl W sb g) : SS X cl W (.If c sa sb pos) (sIf ft f g) := by
  obtain ⟨_, p0, r0⟩ := hc.ex
  obtain ⟨_, p, r⟩ := h.ex
  obtain ⟨_, p2, r2⟩ := k.ex
  refine ⟨_, ps_if p0 p p2, fun σ Hv H S ad env Dn re so q => ?_⟩
  refine r0 σ Hv H S ad env _ re so ((q.bind re).mono fun b S1 Hv1 ad1 H1 e1 p1 s1 q1 => ?_)
  cases b with
  | true => exact r σ Hv1 H1 S1 ad1 env Dn (re.mono e1 p1) s1 q1
  | false => exact r2 σ Hv1 H1 S1 ad1 env Dn (re.mono e1 p1) s1 q1
theorem rep2 {K : PySem.W.Frag} {Hv : Hp} {ad : List Addr} {vs : List V} {a b : A} (r : RepAs K cl Hv ad vs [a, b]) : ∃ v w, vs = [v, w] ∧ RepA K cl Hv ad v a ∧ RepA K cl Hv ad w b := by
  cases r with
  | cons r1 r =>
    cases r with
    | cons r2 r =>
      cases r
      exact ⟨_, _, rfl, r1, r2⟩
theorem rep1 {K : PySem.W.Frag} {Hv : Hp} {ad : List Addr} {vs : List V} {a : A} (r : RepAs K cl Hv ad vs [a]) : ∃ v, vs = [v] ∧ RepA K cl Hv ad v a := by
  cases r with
  | cons r1 r =>
    cases r
    exact ⟨_, rfl, r1⟩
theorem rep3 {K : PySem.W.Frag} {Hv : Hp} {ad : List Addr} {vs : List V} {a b c : A} (r : RepAs K cl Hv ad vs [a, b, c]) : ∃ v w u, vs = [v, w, u] ∧ RepA K cl Hv ad v a ∧ RepA K cl Hv ad w b ∧ RepA K cl Hv ad u c := by
  cases r with
  | cons r1 r =>
    obtain ⟨w, u, rfl, r2, r3⟩ := rep2 r
    exact ⟨_, _, _, rfl, r1, r2, r3⟩
theorem ss_par (i j : Nat) {x y : Str} {a b : Expr} {px py pt : Pos} {kt k2 pt2} {f : Ev (List A)} (hN : X.N.Nodup) (ha : SA X cl W [a, b] f) (hc : X.calm = true := by rfl) (hi : X.N[i]? = some x := by rfl) (hj : X.N[j]? = some y := by rfl) (hij : i ≠ j := by decide)
    (hx : X.env.scope.names.lookup x = some .local := by rfl) (hy : X.env.scope.names.lookup y = some .local := by rfl)
    (hw : swappedStores [.Tuple [.Name x px, .Name y py] kt pt] (.Tuple [a, b] k2 pt2) X.env = pure (some [x, y]) := by rfl)
    (hs : swapsWithSole [.Tuple [.Name x px, .Name y py] kt pt] (.Tuple [a, b] k2 pt2) pos.line X.env = pure false := by rfl) : SS X cl W (.Assign [.Tuple [.Name x px, .Name y py] kt pt] (.Tuple [a, b] k2 pt2) pos) (sPar i j f) := by
  obtain ⟨_, p, r⟩ := ha.ex
  refine ⟨_, ps_par hc hN hi hj hij hx hy p hw hs, fun σ Hv H S ad env Dn re so q => ?_⟩
  refine r σ Hv H S ad env _ re so ((q.bind re).mono fun as S1 Hv1 ad1 H1 e1 p1 s1 q1 vs rs => ?_)
  split at q1
  · obtain ⟨v, w, rfl, r1, r2⟩ := rep2 rs
    exact ⟨v, w, rfl, q1 _ Hv1 ad1 H1 (Ex.refl _) (Pre.refl _) s1 (((re.mono e1 p1).set i r1).set j r2)⟩
  · exact q1.elim
theorem ss_par3 (i j l : Nat) {x y z : Str} {a b c : Expr} {px py pz pt : Pos} {kt k2 pt2} {f : Ev (List A)} (hN : X.N.Nodup) (ha : SA X cl W [a, b, c] f) (hc : X.calm = true := by rfl) (hi : X.N[i]? = some x := by rfl) (hj : X.N[j]? = some y := by rfl) (hl : X.N[l]? = some z := by rfl) (hij : i ≠ j := by decide) (hil : i ≠ l := by decide) (hjl : j ≠ l := by decide)
    (hx : X.env.scope.names.lookup x = some .local := by rfl) (hy : X.env.scope.names.lookup y = some .local := by rfl) (hz : X.env.scope.names.lookup z = some .local := by rfl)
    (hw : swappedStores [.Tuple [.Name x px, .Name y py, .Name z pz] kt pt] (.Tuple [a, b, c] k2 pt2) X.env = pure (some [x, y, z]) := by rfl)
    (hs : swapsWithSole [.Tuple [.Name x px, .Name y py, .Name z pz] kt pt] (.Tuple [a, b, c] k2 pt2) pos.line X.env = pure false := by rfl) : SS X cl W (.Assign [.Tuple [.Name x px, .Name y py, .Name z pz] kt pt] (.Tuple [a, b, c] k2 pt2) pos) (sPar3 i j l f) := by
  obtain ⟨_, p, r⟩ := ha.ex
  refine ⟨_, ps_par3 hc hN hi hj hl hij hil hjl hx hy hz p hw hs, fun σ Hv H S ad env Dn re so q => ?_⟩
  refine r σ Hv H S ad env _ re so ((q.bind re).mono fun as S1 Hv1 ad1 H1 e1 p1 s1 q1 vs rs => ?_)
  split at q1
  · obtain ⟨v, w, u, rfl, r1, r2, r3⟩ := rep3 rs
    exact ⟨v, w, u, rfl, q1 _ Hv1 ad1 H1 (Ex.refl _) (Pre.refl _) s1 ((((re.mono e1 p1).set i r1).set j r2).set l r3)⟩
  · exact q1.elim
/-! ### targets -/
theorem sg_name (i : Nat) {x : Str} (hN : X.N.Nodup) (hi : X.N[i]? = some x := by rfl) (hx : Loc X.env.scope x := by first | exact Or.inl rfl | exact Or.inr rfl) (hf : X.fn x = true ∨ X.env.scope.names.lookup x = some .local := by first | exact .inl rfl | exact .inr rfl | assumption) : SG X cl W (.Name x pos) (gSet i) :=
  ⟨_, pg_name hN hi hx hf, fun σ Hv H S ad env v a Q re so r q => q.here so _ (re.set i r)⟩
theorem sgs_nil : SGs X cl W [] gNone := ⟨_, pgs_nil, fun σ Hv H S ad env vs as Q re so r q => by
  cases r with
  | nil => exact ⟨rfl, q.here so σ re⟩
  | cons _ _ => exact q.elim⟩
theorem sgs_cons {e : Expr} {es : List Expr} {g : A → Ev Env} {k : List A → Ev Env} (h1 : SG X cl W e g) (h2 : SGs X cl W es k)
    (hW : ∀ cls d σ σ' H, W cls d σ H → W cls d σ' H)
    (hs : (assignEach (e :: es) X.env).map (·.2) = assign e X.env :: (assignEach es X.env).map (·.2) := by rfl) : SGs X cl W (e :: es) (gMore g k) := by
  obtain ⟨_, p, r⟩ := h1.ex
  obtain ⟨_, p2, r2⟩ := h2.ex
  refine ⟨_, pgs_cons p p2 hs, fun σ Hv H S ad env vs as Q re so rs q => ?_⟩
  cases rs with
  | nil => exact q.elim
  | @cons v a vs as ra rs =>
    refine ⟨v, vs, rfl, r σ Hv H S ad env v a _ re so ra (Pst.bind (k := fun env' S1 => k as env' S1) q |>.mono fun env1 S1 Hv1 ad1 H1 e1 p1 s1 q1 σ1 re1 => ?_)⟩
    refine r2 σ1 Hv1 H1 S1 ad1 env1 vs as Q re1 s1 (rs.mono e1 p1) ?_
    cases q2 : k as env1 S1 with
    | ok b S2 =>
      rw [q2] at q1
      exact q1
    | exc c ns vs S2 =>
      rw [q2] at q1
      exact fun Hv' ad' H' dd e p s x => hW _ _ _ _ _ (q1 Hv' ad' H' dd e p s x)
    | bad =>
      rw [q2] at q1
      exact q1.elim
theorem sg_tup {es : List Expr} {k : Nat} {n : Nat} {g : List A → Ev Env} (h : SGs X cl W es g) (hc : X.calm = true := by rfl) (hn : (assignEach es X.env).length = n := by rfl) (hst : (assignEach es X.env).findIdx? (·.1) = none := by rfl) : SG X cl W (.Tuple es k pos) (gTupE n g) := by
  obtain ⟨_, p, r⟩ := h.ex
  refine ⟨_, pg_tup hc p hn hst, fun σ Hv H S ad env v a Q re so ra q => ?_⟩
  unfold gTupE at q
  split at q
  · rename_i ds
    by_cases hl : ds.length = n
    · rw [if_pos hl] at q
      cases ra with
      | tup hq rs => exact ⟨_, _, rfl, ex_t so.ex hq, by rw [rs.length]; exact hl, r σ Hv H S ad env _ _ Q re so (RepAs.vals rs) q⟩
    · rw [if_neg hl] at q
      exact q.elim
  · exact q.elim
/-- target = e: a tuple of names, an item -/
theorem ss_asg {tg e : Expr} {f : Ev A} {g : A → Ev Env} (h : SE X cl W e f) (k : SG X cl W tg g) (hs : swapsWithSole [tg] e pos.line X.env = pure false := by rfl) (hw : swappedStores [tg] e X.env = pure none := by rfl) (h1 : (assignEach [tg] X.env).map (·.2) = [assign tg X.env] := by rfl) : SS X cl W (.Assign [tg] e pos) (sAsg f g) := by
  obtain ⟨_, p, r⟩ := h.ex
  obtain ⟨_, p2, r2⟩ := k.ex
  refine ⟨_, ps_asg p p2 hs hw h1, fun σ Hv H S ad env Dn re so q => ?_⟩
  refine r σ Hv H S ad env _ re so ((q.bind re).mono fun a S1 Hv1 ad1 H1 e1 p1 s1 q1 v1 r1 => ?_)
  refine r2 σ Hv1 H1 S1 ad1 env v1 a Dn.nx (re.mono e1 p1) s1 r1 ((q1.bind (re.mono e1 p1)).mono fun env2 S2 Hv2 ad2 H2 e2 p2 s2 q2 σ2 re2 => q2 σ2 Hv2 ad2 H2 (Ex.refl _) (Pre.refl _) s2 re2)
end

/-! ### defs and calls -/
def startE (n : Nat) (as : List A) : Env := as.map some ++ List.replicate (n - as.length) none
/-- what a def hands back: n slots, its body -/
def defF (n : Nat) (body : Sv) (as : List A) (S : Store) : Out A := match body (startE n as) S with
  | .ok (.nx _) S' => .ok (.val .non) (S'.take S.length)
  | .ok (.rt (.val d)) S' => .ok (.val d) (S'.take S.length)
  | .ok (.rt (.loc k)) S' => if k < S.length then .ok (.loc k) (S'.take S.length) else (match S'[k]? with
    | some (some c) => .ok (.loc S.length) (S'.take S.length ++ [some c])
    | _ => .bad)
  | .exc c ns vs _ S' => .exc c ns vs (S'.take S.length)
  | _ => .bad
/-- the promise -/
def SpF (K : PySem.W.Frag) (cl : Nat → Addr) (n : Nat) (g : List A → Store → Out A) : Sp := fun vs H Q E => vs.length = n ∧ ∃ Hv S ad as, RepAs K cl Hv ad vs as ∧ StOk K cl Hv H S ad ∧ Pst K cl (fun c d _ H' => E c d H') [] Hv ad (RA K cl Q) (g as S)
theorem Pre.take {l m : List Addr} {n : Nat} (h : Pre l m) (hn : l.length = n) : m.take n = l := by
  obtain ⟨r, rfl⟩ := h
  rw [← hn]
  simp
section
variable {P : Program} {w : World} {K : PySem.W.Frag} {mg : Str → Option Value} {base : Heap} {x qual : Str} {params : Arguments} {body : List Stmt} {scope : Scope} {dvs : List V} {kws : List (Str × V)} {f : Addr} {fd : FuncData} {cl : Nat → Addr}
theorem start_rep {Hv : Hp} {ad : List Addr} {N : List Str} {vs : List V} {as : List A} (r : RepAs K cl Hv ad vs as) : RepEnv K cl Hv ad (L2.start N vs) (startE N.length as) := by
  refine ⟨by simp [L2.start, startE, r.length], fun i a e => ?_⟩
  unfold startE at e
  unfold L2.start
  by_cases hi : i < as.length
  · rw [List.getElem?_append_left (by simpa using hi), List.getElem?_map] at e
    have e2 : as[i]? = some a := by
      cases q : as[i]? with
      | none =>
        rw [q] at e
        cases e
      | some b =>
        rw [q] at e
        cases e
        rfl
    obtain ⟨v, h1, h2⟩ := r.get e2
    exact ⟨v, by rw [List.getElem?_append_left (by rw [List.length_map, r.length]; exact hi), List.getElem?_map, h1]; rfl, h2⟩
  · rw [List.getElem?_append_right (by simpa using hi), List.getElem?_replicate] at e
    split at e <;> cases e
/-- a def's promise where nothing is being shown (repr) around the call -/
structure FnG (P : Program) (w : World) (K : PySem.W.Frag) (mg : Str → Option Value) (base : Heap) (k : Nat) (f : Addr) (fd : FuncData) (ps : List Str) (sp : Sp) : Prop where
  len : ∀ vs H Q E, sp vs H Q E → vs.length = ps.length
  run : ∀ (A : Around) (outer : List PySem.Env) (s : Shared) (H : Hp) (args : Args) (us : List Value) (vs : List V) (Q : VK) (E : XK), A.guards = some [] → Room k A → Env0 P w K mg base A outer s H → BindsTo s fd args (ps.zip us) → Vals vs us → sp vs H Q E →
    codeAny (model P w) A (.call (.ref f) args) (CR (L2.CX P w) outer P w H s Q E) s
theorem FnG.mono {P : Program} {w : World} {K : PySem.W.Frag} {mg : Str → Option Value} {base : Heap} {j k : Nat} {f : Addr} {fd : FuncData} {ps : List Str} {sp : Sp} (F : FnG P w K mg base j f fd ps sp) (h : j ≤ k) : FnG P w K mg base k f fd ps sp :=
  ⟨F.len, fun A outer s H args us vs Q E hg hr => F.run A outer s H args us vs Q E hg (hr.mono h)⟩
theorem fnG_of {N ps : List Str} {k : Nat} {sp : Sp} (F : FunD K x qual params body scope dvs kws f fd) (S : FnScope N ps scope) (len : ∀ vs H Q E, sp vs H Q E → vs.length = ps.length)
    (hbody : ∀ (cdv : Value) (A : Around) (outer : List PySem.Env) (s : Shared) (H : Hp) (vs : List V) (Q : VK) (E : XK), A.guards = some [] → Room k (A.deeper (PyProof.Rows.envOfC qual scope s.heap.objs.size f cdv)) → sp vs H Q E →
      ∃ t, PSs (cxOf (L2.CX P w) P w K mg base N qual scope f cdv A outer s H E) body t ∧ t { nx := fun _ H' => Q .non H', rt := Q } (L2.start N vs) H) : FnG P w K mg base (k + 1) f fd ps sp := by
  obtain ⟨oc, od, dV, kV, doc, pm, an, cdv, ct, osl, rfl, lk, hcd, _, _⟩ := F.ex
  refine ⟨len, fun A outer s H args us vs Q E hg hr e0 hb r hsp => ?_⟩
  have hl := len _ _ _ _ hsp
  have KX : K.In s.heap := e0.mod.kin.keeps fun b o e => (e0.bs b o e).1
  have lim : s.heap.NoLimit := e0.mod.nolimit.keeps fun b o e => (e0.bs b o e).1
  have hkind : ∀ y ∈ ps.zip us, scope.names.lookup y.1 = some .local ∨ (scope.names.lookup y.1 = some .cell ∧ ((cellsFrom (s.heap.objs.size + 1) scope.names []).lookup y.1).isSome = true) := fun y hy =>
    (S.par y.1 (List.of_mem_zip (show (y.1, y.2) ∈ ps.zip us from hy)).1).elim .inl fun q => .inr ⟨q, PySem.W.cellsFrom_some _ _ _ (.inl q)⟩
  refine codeAny_call_function hr.depth (KX _ _ lk) rfl S.co S.gen rfl (PySem.W.codeRec_of KX hcd) (hb _ _ _ _ (wpAny_newFunctionEnv_cells S.kind hkind fun env he s1 z => ?_))
  subst he
  refine ⟨lim.keeps z.toInCall.keep, codeAny_func ?_⟩
  obtain ⟨t, ht, hq⟩ := hbody cdv A outer s H vs Q E hg (hr.deeper _) hsp
  refine wpAny_mono (ht.run [] s1 _ H _ (inv_start S hr.hd e0 hl r z) hq) (fun fl s' hs => ?_) fun e s' hs => hs
  cases fl with
  | ret u =>
    obtain ⟨v, σ', H', J, rv, q⟩ := hs
    exact ⟨v, H', J.os, J.bare, J.base, J.hok, rv, q⟩
  | next =>
    obtain ⟨σ', H', J, q⟩ := hs
    exact ⟨.non, H', J.os, J.bare, J.base, J.hok, rfl, q⟩
  | brk => exact hs.elim fun _ ⟨_, _, q⟩ => q.elim
  | cont => exact hs.elim fun _ ⟨_, _, q⟩ => q.elim
/-- what a body may lean on -/
structure Bx (X : Cx) (W : WX) : Prop where
  tk : Takes X W
  po : PassesOwn (model X.prog X.w) X.A X.env X.xe
  hW : ∀ cls d σ σ' H, W cls d σ H → W cls d σ' H
  gd : X.A.guards = some []
/-- THE RULE for a def -/
theorem fn_def {N ps : List Str} {k : Nat} {fb : Sv} (F : FunD K x qual params body scope dvs kws f fd) (S : FnScope N ps scope)
    (hb : ∀ (cdv : Value) (A : Around) (outer : List PySem.Env) (s : Shared) (H : Hp) (E : XK), Room k (A.deeper (PyProof.Rows.envOfC qual scope s.heap.objs.size f cdv)) → Bx (cxOf (L2.CX P w) P w K mg base N qual scope f cdv A outer s H E) (fun c d _ H' => E c d H') →
      SSs (cxOf (L2.CX P w) P w K mg base N qual scope f cdv A outer s H E) cl (fun c d _ H' => E c d H') body fb) :
    FnG P w K mg base (k + 1) f fd ps (SpF K cl ps.length (defF N.length fb)) := by
  refine fnG_of F S (fun vs H Q E h => h.1) fun cdv A outer s H vs Q E hgd hr h => ?_
  obtain ⟨hl, Hv, St, ad, as, rs, so, q⟩ := h
  have hx := hb cdv A outer s H E hr ⟨takes_of rfl rfl rfl rfl, passes_of rfl, fun _ _ _ _ _ z => z, hgd⟩
  obtain ⟨t, p, r⟩ := hx.ex
  refine ⟨t, p, r _ Hv H St ad (startE N.length as) _ (start_rep rs) so ?_⟩
  have hlen := so.len
  unfold defF at q
  cases e : fb (startE N.length as) St with
  | ok fl S1 =>
    rw [e] at q
    cases fl with
    | nx env1 =>
      intro σ1 Hv1 ad1 H1 e1 p1 s1 re1
      have s2 := s1.take St.length
      rw [p1.take hlen] at s2
      exact q Hv1 ad H1 e1 (Pre.refl _) s2 .non .non
    | rt a =>
      intro v Hv1 ad1 H1 e1 p1 s1 r1
      have s2 := s1.take St.length
      rw [p1.take hlen] at s2
      cases a with
      | val d => exact q Hv1 ad H1 e1 (Pre.refl _) s2 v r1
      | loc m =>
        obtain ⟨y, rfl, hy⟩ := r1
        dsimp only at q
        by_cases hm : m < St.length
        · rw [if_pos hm] at q
          refine q Hv1 ad H1 e1 (Pre.refl _) s2 (.ref y) ⟨y, rfl, ?_⟩
          obtain ⟨z, rfl⟩ := p1
          rw [List.getElem?_append_left (by rw [hlen]; exact hm)] at hy
          exact hy
        · rw [if_neg hm] at q
          split at q
          · rename_i c ec
            obtain ⟨y', h1, h2, h3⟩ := s1.at_ m c ec
            rw [hy] at h1
            cases h1
            have s3 : StOk K cl Hv1 H1 (S1.take St.length ++ [some c]) (ad ++ [y]) := by
              have live : ∀ (n : Nat) (x : Con) (b : Addr), (S1.take St.length)[n]? = some (some x) → ad[n]? = some b → b ≠ y := fun n x b q1 q2 z => by
                have hn : n < St.length := by
                  have := (List.getElem?_eq_some_iff.mp q2).1
                  omega
                rw [List.getElem?_take, if_pos hn] at q1
                have := s1.inj n m x c y q1 ec (by rw [← z]; exact p1.get q2) hy
                omega
              have tl : (S1.take St.length).length = ad.length := s2.len.symm
              refine ⟨s2.ex, by rw [List.length_append, List.length_append, s2.len]; rfl, fun n x q1 => ?_, fun n n' x x' b q1 q2 a1 a2 => ?_, s2.sm⟩
              · by_cases hn : n < ad.length
                · rw [List.getElem?_append_left (by rw [tl]; exact hn)] at q1
                  obtain ⟨b, g1, g2, g3⟩ := s2.at_ n x q1
                  exact ⟨b, (Pre.get ⟨[y], rfl⟩ g1), g2, g3.mono (Ex.refl _) ⟨[y], rfl⟩⟩
                · rw [List.getElem?_append_right (by rw [tl]; omega), tl] at q1
                  have hn' : n - ad.length = 0 := by
                    have := (List.getElem?_eq_some_iff.mp q1).1
                    simp at this
                    omega
                  rw [hn'] at q1
                  cases q1
                  refine ⟨y, by rw [List.getElem?_append_right (by omega), hn']; rfl, h2, ?_⟩
                  cases c with
                  | lst _ => exact h3
                  | dic _ _ => exact h3
                  | dit _ _ => exact h3
                  | ins _ _ _ => exact h3
              · have out : ∀ (i : Nat) (z : Con), (S1.take St.length ++ [some c])[i]? = some (some z) → (ad ++ [y])[i]? = some b → (i < ad.length ∧ (S1.take St.length)[i]? = some (some z) ∧ ad[i]? = some b) ∨ (i = ad.length ∧ b = y) := fun i z g1 g2 => by
                  by_cases hi : i < ad.length
                  · rw [List.getElem?_append_left (by rw [tl]; exact hi)] at g1
                    rw [List.getElem?_append_left hi] at g2
                    exact .inl ⟨hi, g1, g2⟩
                  · have := (List.getElem?_eq_some_iff.mp g2).1
                    simp at this
                    have hi' : i = ad.length := by omega
                    subst hi'
                    rw [List.getElem?_append_right (Nat.le_refl _)] at g2
                    simp at g2
                    exact .inr ⟨rfl, g2.symm⟩
                rcases out n x q1 a1 with ⟨_, g1, g2⟩ | ⟨g1, g2⟩
                · rcases out n' x' q2 a2 with ⟨_, g3, g4⟩ | ⟨g3, g4⟩
                  · exact s2.inj n n' x x' b g1 g3 g2 g4
                  · exact absurd g4 (live n x b g1 g2)
                · rcases out n' x' q2 a2 with ⟨_, g3, g4⟩ | ⟨g3, g4⟩
                  · exact absurd g2 (live n' x' b g3 g4)
                  · rw [g1, g3]
            exact q Hv1 (ad ++ [y]) H1 e1 ⟨[y], rfl⟩ s3 (.ref y) ⟨y, rfl, by rw [← hlen]; simp⟩
          · exact q.elim
    | bk env1 => exact q.elim
    | ct env1 => exact q.elim
  | exc c ns vs' env1 S1 =>
    rw [e] at q
    intro σ1 Hv1 ad1 H1 dd e1 p1 s1 re1 x1
    have s2 := s1.take St.length
    rw [p1.take hlen] at s2
    exact q Hv1 ad H1 dd e1 (Pre.refl _) s2 x1
  | bad =>
    rw [e] at q
    exact q.elim
end
section
variable {X : Cx} {cl : Nat → Addr} {W : WX} {k n : Nat} {f C : Addr} {fd : FuncData} {ps : List Str} {g : List A → Store → Out A} {dvs : List V} {dfl : List A} {ds : List Value} {x m : Str} {p pos apos : Pos} {e o : Expr} {es : List Expr}
theorem rd_fn {σ : St} {Hv H : Hp} {S : Store} {ad : List Addr} {vs : List V} {as : List A} {Q : VK} (hn : as.length = n) (so : StOk X.K cl Hv H S ad) (r : RepAs X.K cl Hv ad vs as) (q : Pst X.K cl W σ Hv ad (RA X.K cl Q) (g as S)) : SpF X.K cl n g vs H Q (WE W σ) := by
  refine ⟨by rw [r.length]; exact hn, Hv, S, ad, as, r, so, ?_⟩
  cases e : g as S with
  | ok a S1 =>
    rw [e] at q
    exact q
  | exc c ns vs S1 =>
    rw [e] at q
    exact q
  | bad =>
    rw [e] at q
    exact q
/-- f with its defaults behind; the number of the arguments is looked at -/
def callG (n : Nat) (g : List A → Store → Out A) (dfl : List A) (as : List A) (S : Store) : Out A := if (as ++ dfl).length = n then g (as ++ dfl) S else .bad
theorem run_fnG {pins : List (Addr × Obj)} {σ : St} {H : Hp} {s : Shared} {Q : VK} {us : List Value} {vs : List V} {sp : Sp} (F : FnG X.prog X.w X.K X.mg X.base k f fd ps sp) (B : Bx X W) (hr : Room k X.A) (hb : Binds X.K fd ps ds) (hd : Vals dvs ds)
    (I : Inv X pins σ H s) (r : Vals vs us) (h : sp (vs ++ dvs) H Q (WE W σ)) : wpAny (model X.prog X.w) X.A (call (.ref f) us) (EP X pins σ Q) X.xe s := by
  have r2 : Vals (vs ++ dvs) (us ++ ds) := r.append hd
  have hl : (us ++ ds).length = ps.length := r2.length.symm.trans (F.len _ _ _ _ h)
  refine wpAny_call (codeAny_mono (F.run X.A X.stack s H ⟨us, []⟩ (us ++ ds) (vs ++ dvs) Q (WE W σ) B.gd hr I.env0 (hb s us I.kIn hl) r2 h) fun z s' hq => ?_)
  match z, hq with
  | .error e, hq => exact passAt B.tk σ pins H s e s' I hq
  | .ok (.ret u), hq => exact I.after hq
theorem se_call {fa : Ev (List A)} (F : FnG X.prog X.w X.K X.mg X.base k f fd ps (SpF X.K cl n g)) (B : Bx X W) (hr : Room k X.A) (hm : X.mg x = some (.ref f)) (hk : PySem.W.keepIn X.K (.ref f) = true) (hb : Binds X.K fd ps ds) (hd : Vals dvs ds) (hdf : ∀ Hv ad, RepAs X.K cl Hv ad dvs dfl)
    (ha : SA X cl W (e :: es) fa) (hg : Gl X x := by rfl) (hdb : (x == ("__debug__" : Str)) = false := by decide) (he : starEach (e :: es) X.env = (false, eval e X.env) :: starEach es X.env := by rfl) (hpl : (backTo pos (starEach es X.env)).any (·.1) = false := by rfl) :
    SE X cl W (.Call (.Name x p) (e :: es) [] pos) (eApp (callG n g dfl) fa) := by
  obtain ⟨ta, pa, ra⟩ := ha.ex
  refine ⟨tCallSD (SpF X.K cl n g) dvs (WE W) ta, ⟨fun pins s σ H Q I h => ?_⟩, fun σ Hv H S ad env Q re so q => ?_⟩
  · refine wpAny_Call_Name_kw (ld_glob I hg hm ?_ hdb)
    exact PySem.W.callWith_K (h₀ := X.base) I.ok.mod.kin hk (thn (pa.run pos pins s σ H _ I h) fun us s1 ⟨vs, H1, I1, r, q⟩ => ⟨I1.kIn, run_fnG F B hr hb hd I1 r q⟩) he hpl
  refine ra σ Hv H S ad env _ re so (q.bind.mono fun as S1 Hv1 ad1 H1 e1 p1 s1 q1 vs r1 => ?_)
  unfold callG at q1
  by_cases hn : (as ++ dfl).length = n
  · rw [if_pos hn] at q1
    exact rd_fn hn s1 (r1.append (hdf Hv1 ad1)) q1
  · rw [if_neg hn] at q1
    exact q1.elim
theorem se_call0 (F : FnG X.prog X.w X.K X.mg X.base k f fd ps (SpF X.K cl n g)) (B : Bx X W) (hr : Room k X.A) (hm : X.mg x = some (.ref f)) (hk : PySem.W.keepIn X.K (.ref f) = true) (hb : Binds X.K fd ps ds) (hd : Vals dvs ds) (hdf : ∀ Hv ad, RepAs X.K cl Hv ad dvs dfl)
    (hg : Gl X x := by rfl) (hdb : (x == ("__debug__" : Str)) = false := by decide) : SE X cl W (.Call (.Name x p) [] [] pos) (eApp (callG n g dfl) eNil) := by
  refine ⟨tCallSD (SpF X.K cl n g) dvs (WE W) tNil, ⟨fun pins s σ H Q I h => ?_⟩, fun σ Hv H S ad env Q re so q => ?_⟩
  · refine wpAny_Call_Name_kw (ld_glob I hg hm ?_ hdb)
    exact PySem.W.callWith_K0 I.kIn hk (run_fnG (us := []) F B hr hb hd I .nil h)
  · have q1 : Pst X.K cl W σ Hv ad (RA X.K cl Q) (callG n g dfl [] S) := q
    unfold callG at q1
    by_cases hn : (([] : List A) ++ dfl).length = n
    · rw [if_pos hn] at q1
      exact rd_fn hn so (RepAs.append .nil (hdf Hv ad)) q1
    · rw [if_neg hn] at q1
      exact q1.elim
end
end R


namespace R
open PySem L2

/-- the walked thing yields these data -/
def WalkOk (K : PySem.W.Frag) (cl : Nat → Addr) (J : It) (ds : List D) (Hv0 : Hp) : Prop :=
  ∀ (i : Nat) (Hv H : Hp), Ex Hv0 Hv → Ex Hv H → (ds.length ≤ i → J.stop i H) ∧ ∀ d, ds[i]? = some d → J.go i H ∧ ∀ x H', J.yld i H x H' → ∀ S ad, StOk K cl Hv H S ad → ∃ Hv', Ex Hv Hv' ∧ StOk K cl Hv' H' S ad ∧ Rep K cl Hv' x d
def RdI (K : PySem.W.Frag) (cl : Nat → Addr) (W : WX) (wi : TI) (f : Ev (List D)) : Prop := ∀ (σ : St) (Hv H : Hp) (S : Store) (ad : List Addr) (env : Env) (R : It → Hp → Prop), RepEnv K cl Hv ad σ env → StOk K cl Hv H S ad →
  Pst K cl W σ Hv ad (fun ds _ Hv' _ H' => ∀ J, WalkOk K cl J ds Hv' → R J H') (f env S) → wi σ H R
structure SI (X : Cx) (cl : Nat → Addr) (W : WX) (tg iter : Expr) (f : Ev (List D)) : Prop where
  ex : ∃ wi, PI X tg iter wi ∧ RdI X.K cl W wi f

/-! ### evaluators -/
/-- the items of a list, a tuple -/
def items? : A → Option (List D)
  | .val (.lst ds) => some ds
  | .val (.tup ds) => some ds
  | _ => none
def iSeq (f : Ev A) : Ev (List D) := fun env S => (f env S).bind fun a S1 => match items? a with
  | some ds => .ok ds S1
  | none => .bad
def rangeD (lo : Int) (n : Nat) : List D := (List.range n).map fun i => .int (lo + (i : Nat))
def iRange1 (f : Ev (List A)) : Ev (List D) := fun env S => (f env S).bind fun as S1 => match as with
  | [.val (.int n)] => if -100000 < n ∧ n < 100000 then .ok (rangeD 0 n.toNat) S1 else .bad
  | _ => .bad
def iRange2 (f : Ev (List A)) : Ev (List D) := fun env S => (f env S).bind fun as S1 => match as with
  | [.val (.int m), .val (.int n)] => if -100000 < m ∧ m < 100000 ∧ n < 100000 ∧ -100000 < n then .ok (rangeD m (n - m).toNat) S1 else .bad
  | _ => .bad
def enumD (ds : List D) : List D := (List.range ds.length).zipWith (fun i d => .tup [.int (i : Nat), d]) ds
def iEnumE (f : Ev (List A)) : Ev (List D) := fun env S => (f env S).bind fun as S1 => match as with
  | [.val (.lst ds)] => .ok (enumD ds) S1
  | _ => .bad
def forD (g : A → Ev Env) (body : Sv) : List D → Sv
  | [], env, S => .ok (.nx env) S
  | d :: r, env, S => (g (.val d) env S).bindS env fun env1 S1 => match body env1 S1 with
    | .ok (.nx env2) S2 => forD g body r env2 S2
    | .ok (.ct env2) S2 => forD g body r env2 S2
    | .ok (.bk env2) S2 => .ok (.nx env2) S2
    | .ok (.rt a) S2 => .ok (.rt a) S2
    | .exc c ns vs env2 S2 => .exc c ns vs env2 S2
    | .bad => .bad
def sFor (src : Ev (List D)) (g : A → Ev Env) (body : Sv) : Sv := fun env S => (src env S).bindS env fun ds S1 => forD g body ds env S1
/-- a while, at most n turns -/
def whileD (c : Ev Bool) (body : Sv) : Nat → Sv
  | 0, _, _ => .bad
  | n + 1, env, S => (c env S).bindS env fun b S1 => match b with
    | false => .ok (.nx env) S1
    | true => match body env S1 with
      | .ok (.nx env2) S2 => whileD c body n env2 S2
      | .ok (.ct env2) S2 => whileD c body n env2 S2
      | .ok (.bk env2) S2 => .ok (.nx env2) S2
      | .ok (.rt a) S2 => .ok (.rt a) S2
      | .exc c ns vs env2 S2 => .exc c ns vs env2 S2
      | .bad => .bad

section
variable {X : Cx} {cl : Nat → Addr} {W : WX} {tg : Expr} {pos p : Pos}
theorem walk_list {K : PySem.W.Frag} {a : Addr} {xs : List V} {ds : List D} {Hv : Hp} (h : SqL K Hv a xs) (r : Reps K cl Hv xs ds) : WalkOk K cl (Itl K a) ds Hv := fun i Hv1 H1 e1 e2 => by
  have h1 : SqL K H1 a xs := ex_l (e1.trans e2) h
  refine ⟨fun hi => ⟨xs, h1, by rw [r.length]; exact hi⟩, fun d hd => ?_⟩
  obtain ⟨x, hx, rx⟩ := r.get hd
  refine ⟨⟨xs, x, h1, hx⟩, fun y H' hy S ad so => ?_⟩
  obtain ⟨rfl, hy⟩ := hy
  have e := hy xs h1
  rw [hx] at e
  cases e
  exact ⟨Hv1, Ex.refl _, so, rx.mono e1⟩
theorem walk_tup {K : PySem.W.Frag} {a : Addr} {xs : List V} {ds : List D} {Hv : Hp} (h : SqT K Hv a xs) (r : Reps K cl Hv xs ds) : WalkOk K cl (Itt K a) ds Hv := fun i Hv1 H1 e1 e2 => by
  have h1 : SqT K H1 a xs := ex_t (e1.trans e2) h
  refine ⟨fun hi => ⟨xs, h1, by rw [r.length]; exact hi⟩, fun d hd => ?_⟩
  obtain ⟨x, hx, rx⟩ := r.get hd
  refine ⟨⟨xs, x, h1, hx⟩, fun y H' hy S ad so => ?_⟩
  obtain ⟨rfl, hy⟩ := hy
  have e := hy xs h1
  rw [hx] at e
  cases e
  exact ⟨Hv1, Ex.refl _, so, rx.mono e1⟩
theorem walk_range {K : PySem.W.Frag} {lo : Int} {n : Nat} {Hv : Hp} : WalkOk K cl (Itr lo n) (rangeD lo n) Hv := fun i Hv1 H1 e1 e2 => by
  refine ⟨fun hi => by show n ≤ i; simpa [rangeD] using hi, fun d hd => ?_⟩
  have hi : i < n := by
    have := (List.getElem?_eq_some_iff.mp hd).1
    simpa [rangeD] using this
  have ed : d = .int (lo + (i : Nat)) := by
    unfold rangeD at hd
    rw [List.getElem?_map, List.getElem?_range hi] at hd
    cases hd
    rfl
  subst ed
  refine ⟨hi, fun y H' hy S ad so => ?_⟩
  obtain ⟨rfl, rfl⟩ := hy
  exact ⟨Hv1, Ex.refl _, so, .int⟩
theorem pi_or {iter : Expr} {w1 w2 : TI} (h1 : PI X tg iter w1) (h2 : PI X tg iter w2) : PI X tg iter (fun σ H R => w1 σ H R ∨ w2 σ H R) := ⟨fun pins s σ H R I h => h.elim (h1.run pins s σ H R I) (h2.run pins s σ H R I)⟩
theorem si_seq {e : Expr} {f : Ev A} (h : SE X cl W e f) : SI X cl W tg e (iSeq f) := by
  obtain ⟨t, pe, r⟩ := h.ex
  refine ⟨_, pi_or (pi_list pe) (pi_tup pe), fun σ Hv H S ad env R re so q => ?_⟩
  unfold iSeq at q
  cases ef : f env S with
  | ok a S1 =>
    rw [ef] at q
    have q' : Pst X.K cl W σ Hv ad _ (match items? a with | some ds => Out.ok ds S1 | none => .bad) := q
    cases a with
    | loc n => exact q'.elim
    | val d =>
      cases d with
      | lst ds => exact .inl (r σ Hv H S ad env _ re so (by
          rw [ef]
          intro Hv1 ad1 H1 e1 p1 s1 v rv
          cases rv with
          | lst hl rs => exact ⟨_, rfl, ⟨_, ex_l s1.ex (.inl (.inl hl))⟩, q' Hv1 ad1 H1 e1 p1 s1 _ (walk_list (.inl (.inl hl)) rs)⟩))
      | tup ds => exact .inr (r σ Hv H S ad env _ re so (by
          rw [ef]
          intro Hv1 ad1 H1 e1 p1 s1 v rv
          cases rv with
          | tup hl rs => exact ⟨_, rfl, ⟨_, ex_t s1.ex hl⟩, q' Hv1 ad1 H1 e1 p1 s1 _ (walk_tup hl rs)⟩))
      | _ => exact q'.elim
  | exc c ns vs S1 =>
    rw [ef] at q
    exact .inl (r σ Hv H S ad env _ re so (by rw [ef]; exact q))
  | bad =>
    rw [ef] at q
    exact q.elim
theorem si_range1 {a : Expr} {f : Ev (List A)} (h : SA X cl W [a] f) (hm : X.mg "range" = none) (hg : Gl X "range" := by rfl) (hs : starEach [a] X.env = [(false, eval a X.env)] := by rfl) : SI X cl W tg (.Call (.Name "range" p) [a] [] pos) (iRange1 f) := by
  obtain ⟨t, pa, r⟩ := h.ex
  refine ⟨_, pi_range1 hg hm pa hs, fun σ Hv H S ad env R re so q => ?_⟩
  refine r σ Hv H S ad env _ re so (q.bind.mono fun as S1 Hv1 ad1 H1 e1 p1 s1 q1 vs rs => ?_)
  split at q1
  · rename_i n
    by_cases hn : -100000 < n ∧ n < 100000
    · rw [if_pos hn] at q1
      obtain ⟨v, rfl, rv⟩ := rep1 rs
      cases rv
      exact ⟨n, rfl, by omega, by omega, q1.here s1 _ walk_range⟩
    · rw [if_neg hn] at q1
      exact q1.elim
  · exact q1.elim
theorem si_range2 {a b : Expr} {f : Ev (List A)} (h : SA X cl W [a, b] f) (hm : X.mg "range" = none) (hg : Gl X "range" := by rfl) (hs : starEach [a, b] X.env = [(false, eval a X.env), (false, eval b X.env)] := by rfl) (hs2 : starEach [b] X.env = [(false, eval b X.env)] := by rfl) : SI X cl W tg (.Call (.Name "range" p) [a, b] [] pos) (iRange2 f) := by
  obtain ⟨t, pa, r⟩ := h.ex
  refine ⟨_, pi_range2 hg hm pa hs hs2, fun σ Hv H S ad env R re so q => ?_⟩
  refine r σ Hv H S ad env _ re so (q.bind.mono fun as S1 Hv1 ad1 H1 e1 p1 s1 q1 vs rs => ?_)
  split at q1
  · rename_i m n
    by_cases hn : -100000 < m ∧ m < 100000 ∧ n < 100000 ∧ -100000 < n
    · rw [if_pos hn] at q1
      obtain ⟨v, w, rfl, rv, rw'⟩ := rep2 rs
      cases rv
      cases rw'
      exact ⟨m, n, rfl, ⟨by omega, by omega, by omega, by omega⟩, q1.here s1 _ walk_range⟩
    · rw [if_neg hn] at q1
      exact q1.elim
  · exact q1.elim
theorem walk_enum {K : PySem.W.Frag} {a : Addr} {xs : List V} {ds : List D} {Hv : Hp} (h : SqL K Hv a xs) (r : Reps K cl Hv xs ds) : WalkOk K cl (Ite K a) (enumD ds) Hv := fun i Hv1 H1 e1 e2 => by
  have h1 : SqL K H1 a xs := ex_l (e1.trans e2) h
  have hl : (enumD ds).length = ds.length := by simp [enumD]
  refine ⟨fun hi => ⟨xs, h1, by rw [r.length, ← hl]; exact hi⟩, fun d hd => ?_⟩
  have hi : i < ds.length := by
    have := (List.getElem?_eq_some_iff.mp hd).1
    omega
  obtain ⟨d0, hd0⟩ : ∃ d0, ds[i]? = some d0 := ⟨ds[i], List.getElem?_eq_getElem hi⟩
  have ed : d = .tup [.int (i : Nat), d0] := by
    unfold enumD at hd
    rw [List.getElem?_zipWith, List.getElem?_range hi, hd0] at hd
    cases hd
    rfl
  subst ed
  obtain ⟨x, hx, rx⟩ := r.get hd0
  refine ⟨⟨xs, x, h1, hx⟩, fun y H' hy S ad so => ?_⟩
  obtain ⟨T, z, rfl, hT, rfl, hz⟩ := hy
  have e := hz xs h1
  rw [hx] at e
  cases e
  exact ⟨upd Hv1 T _, Ex.new (so.ex.nn hT), so.new hT, .tup (.inl (.inl upd_same)) (.cons .int (.cons (rx.mono (e1.trans (Ex.new (so.ex.nn hT)))) .nil))⟩
theorem si_enum {e : Expr} {elts : List Expr} {kk : Nat} {tpos : Pos} {f : Ev (List A)} (h : SA X cl W [e] f) (hm : X.mg "enumerate" = none) (hg : Gl X "enumerate" := by rfl) (hs : starEach [e] X.env = [(false, eval e X.env)] := by rfl) : SI X cl W (.Tuple elts kk tpos) (.Call (.Name "enumerate" p) [e] [] pos) (iEnumE f) := by
  obtain ⟨t, pa, r⟩ := h.ex
  refine ⟨_, pi_enum hg hm pa hs, fun σ Hv H S ad env R re so q => ?_⟩
  refine r σ Hv H S ad env _ re so (q.bind.mono fun as S1 Hv1 ad1 H1 e1 p1 s1 q1 vs rs => ?_)
  split at q1
  · obtain ⟨v, rfl, rv⟩ := rep1 rs
    cases rv with
    | lst hl rs => exact ⟨_, _, rfl, ex_l s1.ex (.inl (.inl hl)), q1.here s1 _ (walk_enum (.inl (.inl hl)) rs)⟩
  · exact q1.elim

/-! ### for -/
theorem rd_for {wi : TI} {g : TG} {tb : TS} {src : Ev (List D)} {gE : A → Ev Env} {fb : Sv} (hi : RdI X.K cl W wi src) (hg : RdG X.K cl W g gE) (hb : RdS X.K cl W tb fb) : RdS X.K cl W (tFor wi g tb) (sFor src gE fb) := fun σ Hv H S ad env Dn re so q => by
  refine hi σ Hv H S ad env _ re so ((q.bind re).mono fun ds S1 Hv1 ad1 H1 e1 p1 s1 q1 J wk => ?_)
  refine ⟨fun i m σ' H' => m = ds.length - i ∧ i ≤ ds.length ∧ ∃ Hv' S' ad' env', Ex Hv1 Hv' ∧ StOk X.K cl Hv' H' S' ad' ∧ RepEnv X.K cl Hv' ad' σ' env' ∧ PstS X.K cl W Hv' ad' Dn (forD gE fb (ds.drop i) env' S'),
    ⟨ds.length, by omega, Nat.zero_le _, Hv1, S1, ad1, env, Ex.refl _, s1, re.mono e1 p1, q1⟩, ?_⟩
  rintro i m σ2 H2 ⟨rfl, hi, Hv2, S2, ad2, env2, e2, s2, re2, q2⟩
  by_cases hlt : i < ds.length
  · obtain ⟨d, hd⟩ : ∃ d, ds[i]? = some d := ⟨ds[i], List.getElem?_eq_getElem hlt⟩
    obtain ⟨go, yl⟩ := (wk i Hv2 H2 e2 s2.ex).2 d hd
    have edrop : ds.drop i = d :: ds.drop (i + 1) := by
      rw [List.drop_eq_getElem_cons hlt]
      congr 1
      rw [List.getElem?_eq_getElem hlt] at hd
      exact Option.some.inj hd
    rw [edrop] at q2
    refine .inr ⟨go, fun σ' H' => ∃ Hv' S' ad' env', Ex Hv1 Hv' ∧ StOk X.K cl Hv' H' S' ad' ∧ RepEnv X.K cl Hv' ad' σ' env' ∧ PstS X.K cl W Hv' ad' Dn (forD gE fb (ds.drop (i + 1)) env' S'),
      fun σ' H' z => ⟨ds.length - (i + 1), by omega, rfl, hlt, z⟩, fun x H' hy => ?_⟩
    obtain ⟨Hv3, e3, s3, r3⟩ := yl x H' hy S2 ad2 s2
    have q3 := (q2.up e3 (Pre.refl _)).bind (re2.mono e3 (Pre.refl _))
    refine hg σ2 Hv3 H' S2 ad2 env2 x (.val d) _ (re2.mono e3 (Pre.refl _)) s3 r3 (q3.mono fun env4 S4 Hv4 ad4 H4 e4 p4 s4 q4 σ4 re4 => ?_)
    refine hb σ4 Hv4 H4 S4 ad4 env4 _ re4 s4 ?_
    have e14 : Ex Hv1 Hv4 := e2.trans (e3.trans e4)
    cases eb : fb env4 S4 with
    | ok fl S5 =>
      rw [eb] at q4
      cases fl with
      | nx env5 => exact fun σ5 Hv5 ad5 H5 e5 p5 s5 re5 => ⟨Hv5, S5, ad5, env5, e14.trans e5, s5, re5, PstS.up e5 p5 q4⟩
      | ct env5 => exact fun σ5 Hv5 ad5 H5 e5 p5 s5 re5 => ⟨Hv5, S5, ad5, env5, e14.trans e5, s5, re5, PstS.up e5 p5 q4⟩
      | bk env5 => exact q4
      | rt a => exact q4
    | exc c ns vs env5 S5 =>
      rw [eb] at q4
      exact q4
    | bad =>
      rw [eb] at q4
      exact q4
  · refine .inl ⟨(wk i Hv2 H2 e2 s2.ex).1 (by omega), ?_⟩
    rw [List.drop_eq_nil_of_le (by omega)] at q2
    exact q2 σ2 Hv2 ad2 H2 (Ex.refl _) (Pre.refl _) s2 re2
theorem ss_for {iter : Expr} {body : List Stmt} {src : Ev (List D)} {g : A → Ev Env} {fb : Sv} (B : Bx X W) (hi : SI X cl W tg iter src) (hg : SG X cl W tg g) (hb : SSs X cl W body fb) (hc : X.calm = true := by rfl) (hs : ∀ x, foldedSetIterable iter X.env x = pure x := by intro _; rfl) : SS X cl W (.For tg iter body [] pos) (sFor src g fb) :=
  let ⟨_, p1, r1⟩ := hi.ex
  let ⟨_, p2, r2⟩ := hg.ex
  let ⟨_, p3, r3⟩ := hb.ex
  ⟨_, ps_for B.po hc p1 p2 p3 hs, rd_for r1 r2 r3⟩

/-! ### while -/
theorem ss_while (n : Nat) {c : Expr} {body : List Stmt} {fc : Ev Bool} {fb : Sv} (B : Bx X W) (hc : ST X cl W c fc) (hb : SSs X cl W body fb) : SS X cl W (.While c body [] pos) (whileD fc fb n) := by
  obtain ⟨_, p1, r1⟩ := hc.ex
  obtain ⟨_, p2, r2⟩ := hb.ex
  refine ⟨_, ps_while B.po p1 p2, fun σ Hv H S ad env Dn re so q => ?_⟩
  refine ⟨fun m σ' H' => ∃ Hv' S' ad' env', Ex Hv Hv' ∧ StOk X.K cl Hv' H' S' ad' ∧ RepEnv X.K cl Hv' ad' σ' env' ∧ PstS X.K cl W Hv' ad' Dn (whileD fc fb m env' S'), ⟨n, Hv, S, ad, env, Ex.refl _, so, re, q⟩, ?_⟩
  rintro m σ1 H1 ⟨Hv1, S1, ad1, env1, e1, s1, re1, q1⟩
  cases m with
  | zero => exact q1.elim
  | succ m =>
    refine r1 σ1 Hv1 H1 S1 ad1 env1 _ re1 s1 ((PstS.bind re1 q1).mono fun b S2 Hv2 ad2 H2 e2 p2 s2 q2 => ?_)
    cases b with
    | false => exact q2 σ1 Hv2 ad2 H2 (Ex.refl _) (Pre.refl _) s2 (re1.mono e2 p2)
    | true =>
      refine ⟨fun σ' H' => ∃ Hv' S' ad' env', Ex Hv Hv' ∧ StOk X.K cl Hv' H' S' ad' ∧ RepEnv X.K cl Hv' ad' σ' env' ∧ PstS X.K cl W Hv' ad' Dn (whileD fc fb m env' S'), fun σ' H' z => ⟨m, Nat.lt_succ_self m, z⟩, ?_⟩
      refine r2 σ1 Hv2 H2 S2 ad2 env1 _ (re1.mono e2 p2) s2 ?_
      have e02 := e1.trans e2
      dsimp only at q2
      cases eb : fb env1 S2 with
      | ok fl S5 =>
        rw [eb] at q2
        cases fl with
        | nx env5 => exact fun σ5 Hv5 ad5 H5 e5 p5 s5 re5 => ⟨Hv5, S5, ad5, env5, e02.trans e5, s5, re5, PstS.up e5 p5 q2⟩
        | ct env5 => exact fun σ5 Hv5 ad5 H5 e5 p5 s5 re5 => ⟨Hv5, S5, ad5, env5, e02.trans e5, s5, re5, PstS.up e5 p5 q2⟩
        | bk env5 => exact q2
        | rt a => exact q2
      | exc c ns vs env5 S5 =>
        rw [eb] at q2
        exact q2
      | bad =>
        rw [eb] at q2
        exact q2
end
end R


namespace R
open PySem L2

/-! ### the canonical readings -/
section
variable (K : PySem.W.Frag) (cl : Nat → Addr) (W : WX)
def cE (f : Ev A) : TE := fun σ H Q => ∃ Hv S ad env, RepEnv K cl Hv ad σ env ∧ StOk K cl Hv H S ad ∧ Pst K cl W σ Hv ad (RA K cl Q) (f env S)
def cT (f : Ev Bool) : TT := fun σ H Q => ∃ Hv S ad env, RepEnv K cl Hv ad σ env ∧ StOk K cl Hv H S ad ∧ Pst K cl W σ Hv ad (RB Q) (f env S)
def cI (f : Ev (List D)) : TI := fun σ H R => ∃ Hv S ad env, RepEnv K cl Hv ad σ env ∧ StOk K cl Hv H S ad ∧ Pst K cl W σ Hv ad (fun ds _ Hv' _ H' => ∀ J, WalkOk K cl J ds Hv' → R J H') (f env S)
end
/-- nothing is let out -/
def WF : WX := fun _ _ _ _ => False
section
variable {X : Cx} {cl : Nat → Addr} {W : WX}
theorem SE.can {e : Expr} {f : Ev A} (h : SE X cl W e f) : PE X e (cE X.K cl W f) :=
  let ⟨_, p, r⟩ := h.ex
  ⟨fun pins s σ H Q I ⟨Hv, S, ad, env, re, so, q⟩ => p.run pins s σ H Q I (r σ Hv H S ad env Q re so q)⟩
theorem ST.can {e : Expr} {f : Ev Bool} (h : ST X cl W e f) : PT X e (cT X.K cl W f) :=
  let ⟨_, p, r⟩ := h.ex
  ⟨fun pins s σ H Q I ⟨Hv, S, ad, env, re, so, q⟩ => p.run pins s σ H Q I (r σ Hv H S ad env Q re so q)⟩
theorem SI.can {tg e : Expr} {f : Ev (List D)} (h : SI X cl W tg e f) : PI X tg e (cI X.K cl W f) :=
  let ⟨_, p, r⟩ := h.ex
  ⟨fun pins s σ H Q I ⟨Hv, S, ad, env, re, so, q⟩ => p.run pins s σ H Q I (r σ Hv H S ad env Q re so q)⟩
end

/-! ### targets of a block: the slots vs alone are written -/
def cGx (K : PySem.W.Frag) (cl : Nat → Addr) (vs : List Nat) (g : A → Ev Env) : TG := fun v σ H Q => ∃ Hv S ad env a, RepEnv K cl Hv ad σ env ∧ StOk K cl Hv H S ad ∧ RepA K cl Hv ad v a ∧
  Pst K cl WF σ Hv ad (fun env' _ Hv' ad' H' => ∀ σ', RepEnv K cl Hv' ad' σ' env' → wipe σ' vs = wipe σ vs → Q σ' H') (g a env S)
def cGsx (K : PySem.W.Frag) (cl : Nat → Addr) (vs : List Nat) (g : List A → Ev Env) : TGs := fun xs σ H Q => ∃ Hv S ad env as, RepEnv K cl Hv ad σ env ∧ StOk K cl Hv H S ad ∧ RepAs K cl Hv ad xs as ∧
  Pst K cl WF σ Hv ad (fun env' _ Hv' ad' H' => ∀ σ', RepEnv K cl Hv' ad' σ' env' → wipe σ' vs = wipe σ vs → Q σ' H') (g as env S)
theorem wipe_set (σ : St) (x : Option V) (i : Nat) : ∀ vs : List Nat, i ∈ vs → wipe (σ.set i x) vs = wipe σ vs
  | [], h => by cases h
  | v :: vs, h => by
    show (wipe (σ.set i x) vs).set v none = (wipe σ vs).set v none
    by_cases hv : i ∈ vs
    · rw [wipe_set σ x i vs hv]
    · have hi : v = i := by
        rcases List.mem_cons.mp h with e | e
        · exact e.symm
        · exact absurd e hv
      subst hi
      have out : ∀ (ws : List Nat), v ∉ ws → ∀ τ : St, wipe (τ.set v x) ws = (wipe τ ws).set v x := fun ws => by
        induction ws with
        | nil => intro _ τ; rfl
        | cons w ws ih =>
          intro hw τ
          show (wipe (τ.set v x) ws).set w none = ((wipe τ ws).set w none).set v x
          rw [ih (fun z => hw (List.mem_cons_of_mem _ z)), List.set_comm _ _ (fun z => hw (by rw [z]; exact List.mem_cons_self))]
      rw [out vs hv, List.set_set]
section
variable {X : Cx} {cl : Nat → Addr} {pos : Pos} {vs : List Nat}
theorem gx_name (i : Nat) {x : Str} (hv : i ∈ vs) (hN : X.N.Nodup) (hi : X.N[i]? = some x := by rfl) (hx : Loc X.env.scope x := by first | exact Or.inl rfl | exact Or.inr rfl) (hf : X.fn x = true ∨ X.env.scope.names.lookup x = some .local := by first | exact .inl rfl | exact .inr rfl | assumption) :
    PG X (.Name x pos) (cGx X.K cl vs (gSet i)) :=
  ⟨fun pins s σ H v u Q I r ⟨Hv, S, ad, env, a, re, so, ra, q⟩ => (pg_name (pos := pos) hN hi hx hf).run pins s σ H v u Q I r (q Hv ad H (Ex.refl _) (Pre.refl _) so _ (re.set i ra) (wipe_set σ _ i vs hv))⟩
theorem gsx_nil : PGs X [] (cGsx X.K cl vs gNone) := ⟨fun pins s σ H xs us Q I r ⟨Hv, S, ad, env, as, re, so, ra, q⟩ => by
  cases ra with
  | nil => exact pgs_nil.run pins s σ H [] us Q I r ⟨rfl, q Hv ad H (Ex.refl _) (Pre.refl _) so σ re rfl⟩
  | cons _ _ => exact q.elim⟩
theorem gsx_cons {e : Expr} {es : List Expr} {g : A → Ev Env} {k : List A → Ev Env} (h1 : PG X e (cGx X.K cl vs g)) (h2 : PGs X es (cGsx X.K cl vs k))
    (hs : (assignEach (e :: es) X.env).map (·.2) = assign e X.env :: (assignEach es X.env).map (·.2) := by rfl) : PGs X (e :: es) (cGsx X.K cl vs (gMore g k)) := by
  refine ⟨fun pins s σ H xs us Q I r ⟨Hv, S, ad, env, as, re, so, ra, q⟩ => ?_⟩
  cases ra with
  | nil => exact q.elim
  | @cons v a xs as r1 rs =>
    refine (pgs_cons h1 h2 hs).run pins s σ H (v :: xs) us Q I r ⟨v, xs, rfl, Hv, S, ad, env, a, re, so, r1, ?_⟩
    refine Pst.mono (Pst.bind (k := fun env' S1 => k as env' S1) q) fun env1 S1 Hv1 ad1 H1 e1 p1 s1 q1 σ1 re1 w1 => ?_
    refine ⟨Hv1, S1, ad1, env1, as, re1, s1, rs.mono e1 p1, ?_⟩
    cases q2 : k as env1 S1 with
    | ok b S2 =>
      rw [q2] at q1
      exact fun Hv2 ad2 H2 e2 p2 s2 σ2 re2 w2 => q1 Hv2 ad2 H2 e2 p2 s2 σ2 re2 (w2.trans w1)
    | exc c ns vs S2 =>
      rw [q2] at q1
      exact q1
    | bad =>
      rw [q2] at q1
      exact q1
theorem gx_tup {es : List Expr} {k : Nat} {n : Nat} {g : List A → Ev Env} (h : PGs X es (cGsx X.K cl vs g)) (hc : X.calm = true) (hn : (assignEach es X.env).length = n := by rfl) (hst : (assignEach es X.env).findIdx? (·.1) = none := by rfl) : PG X (.Tuple es k pos) (cGx X.K cl vs (gTupE n g)) := by
  refine ⟨fun pins s σ H v u Q I r ⟨Hv, S, ad, env, a, re, so, ra, q⟩ => ?_⟩
  unfold gTupE at q
  split at q
  · rename_i ds
    by_cases hl : ds.length = n
    · rw [if_pos hl] at q
      cases ra with
      | tup hq rs => exact (pg_tup hc h hn hst).run pins s σ H _ u Q I r ⟨_, _, rfl, ex_t so.ex hq, by rw [rs.length]; exact hl, Hv, S, ad, env, _, re, so, RepAs.vals rs, q⟩
    · rw [if_neg hl] at q
      exact q.elim
  · exact q.elim
end

/-! ### list comprehensions -/
def noExc {α : Type} : Out α → Out α
  | .exc _ _ _ _ => .bad
  | o => o
def wipeE (env : Env) : List Nat → Env
  | [] => env
  | v :: vs => (wipeE env vs).set v none
def tYesE : Ev Bool := fun _ S => .ok true S
/-- the block's turns: the list that grows stands at the place n of the store -/
def lcD (n : Nat) (g : A → Ev Env) (tt : Ev Bool) (te : Ev A) (env : Env) : List D → Store → Out Unit
  | [], S => .ok () S
  | d :: r, S => (noExc (g (.val d) env S)).bind fun env1 S1 => (noExc (tt env1 S1)).bind fun b S2 => match b with
    | false => lcD n g tt te env r S2
    | true => (noExc (te env1 S2)).bind fun a S3 => match a, S3[n]? with
      | .val y, some (some (.lst acc)) => if acc.length < 100000 then lcD n g tt te env r (S3.set n (some (.lst (acc ++ [y])))) else .bad
      | _, _ => .bad
def lcEnd (n : Nat) (S : Store) : Out A := match S[n]? with
  | some (some (.lst ds)) => .ok (.val (.lst ds)) (S.take n)
  | _ => .bad
def eLc (vs : List Nat) (src : Ev (List D)) (g : A → Ev Env) (tt : Ev Bool) (te : Ev A) : Ev A := fun env S => (src env S).bind fun ds S1 =>
  (lcD S1.length g tt te (wipeE env vs) ds (S1 ++ [some (.lst [])])).bind fun _ S2 => lcEnd S1.length S2

section
variable {K : PySem.W.Frag} {cl : Nat → Addr} {W : WX} {σ : St} {Hv : Hp} {ad : List Addr}
theorem Pst.noExc {α β : Type} {R : β → Store → Hp → List Addr → Hp → Prop} {o : Out α} {k : α → Store → Out β} (h : Pst K cl W σ Hv ad R ((_root_.R.noExc o).bind k)) (σ' : St) :
    Pst K cl WF σ' Hv ad (fun a S' Hv' ad' _ => Pst K cl W σ Hv' ad' R (k a S')) o := by
  cases o with
  | ok a S => exact Pst.bind (o := .ok a S) h
  | exc c ns vs S => exact h.elim
  | bad => exact h
theorem Pst.bindK {α β : Type} {R : β → Store → Hp → List Addr → Hp → Prop} {o : Out α} {k : α → Store → Out β} (h : Pst K cl W σ Hv ad R (o.bind k)) :
    Pst K cl W σ Hv ad (fun a S' Hv' _ _ => Pst K cl W σ Hv' ad R (k a S')) o := by
  cases o with
  | ok a S => exact fun Hv' ad' H' e p s => Pst.up e (Pre.refl _) (show Pst K cl W σ Hv ad R (k a S) from h)
  | exc c ns vs S => exact h
  | bad => exact h
theorem wipe_rep {env : Env} : ∀ (vs : List Nat), RepEnv K cl Hv ad σ env → RepEnv K cl Hv ad (wipe σ vs) (wipeE env vs)
  | [], h => h
  | v :: vs, h => (wipe_rep vs h).unset v
end
section
variable {X : Cx} {cl : Nat → Addr} {W : WX} {elt tg iter : Expr} {ifs : List Expr} {scope : Scope} {own : List (Str × Nat)} {pos : Pos} {src : Ev (List D)} {g : A → Ev Env} {tt : Ev Bool} {te : Ev A}
theorem rd_lc : RdE X.K cl W (tLc (cI X.K cl W src) (cGx X.K cl (own.map (·.2)) g) (cT X.K cl WF tt) (cE X.K cl WF te) (own.map (·.2))) (eLc (own.map (·.2)) src g tt te) := fun σ Hv H S ad env Q re so q => by
  refine ⟨Hv, S, ad, env, re, so, q.bind.mono fun ds S1 Hv1 ad1 H1 e1 p1 s1 q1 J wk Dd hD => ?_⟩
  have re1 := re.mono e1 p1
  have q2 := Pst.bindK q1
  have hpre : Pre ad1 (ad1 ++ [Dd]) := ⟨[Dd], rfl⟩
  have hDn : (ad1 ++ [Dd])[S1.length]? = some Dd := by rw [← s1.len]; simp
  refine ⟨fun i m H' => m = ds.length - i ∧ i ≤ ds.length ∧ ∃ Hv' S' ad', Ex Hv1 Hv' ∧ Pre (ad1 ++ [Dd]) ad' ∧ StOk X.K cl Hv' H' S' ad' ∧ Pst X.K cl W σ Hv' ad' (fun _ S2 Hv' _ _ => Pst X.K cl W σ Hv' ad1 (RA X.K cl Q) (lcEnd S1.length S2)) (lcD S1.length g tt te (wipeE env (own.map (·.2))) (ds.drop i) S'),
    ⟨ds.length, by omega, Nat.zero_le _, Hv1, _, ad1 ++ [Dd], Ex.refl _, Pre.refl _, s1.alloc (c := .lst []) hD ⟨[], upd_same, .nil⟩, q2.up (Ex.refl _) hpre⟩, ?_⟩
  rintro i m H2 ⟨rfl, hi, Hv2, S2, ad2, e2, p2, s2, q3⟩
  have hD2 : ad2[S1.length]? = some Dd := p2.get hDn
  by_cases hlt : i < ds.length
  · obtain ⟨d, hd⟩ : ∃ d, ds[i]? = some d := ⟨ds[i], List.getElem?_eq_getElem hlt⟩
    obtain ⟨go, yl⟩ := (wk i Hv2 H2 e2 s2.ex).2 d hd
    have edrop : ds.drop i = d :: ds.drop (i + 1) := by
      rw [List.drop_eq_getElem_cons hlt]
      congr 1
      rw [List.getElem?_eq_getElem hlt] at hd
      exact Option.some.inj hd
    rw [edrop] at q3
    refine .inr ⟨go, fun H' => ∃ Hv' S' ad', Ex Hv1 Hv' ∧ Pre (ad1 ++ [Dd]) ad' ∧ StOk X.K cl Hv' H' S' ad' ∧ Pst X.K cl W σ Hv' ad' (fun _ S2 Hv' _ _ => Pst X.K cl W σ Hv' ad1 (RA X.K cl Q) (lcEnd S1.length S2)) (lcD S1.length g tt te (wipeE env (own.map (·.2))) (ds.drop (i + 1)) S'),
      fun H' z => ⟨ds.length - (i + 1), by omega, rfl, hlt, z⟩, fun x H' hy => ?_⟩
    obtain ⟨Hv3, e3, s3, r3⟩ := yl x H' hy S2 ad2 s2
    have pre02 : Pre ad1 ad2 := hpre.trans p2
    have rew : RepEnv X.K cl Hv3 ad2 (wipe σ (own.map (·.2))) (wipeE env (own.map (·.2))) := (wipe_rep _ re1).mono (e2.trans e3) pre02
    have q4 := Pst.noExc (Pst.up e3 (Pre.refl _) q3) (wipe σ (own.map (·.2)))
    refine ⟨Hv3, S2, ad2, _, .val d, rew, s3, r3, q4.mono fun env4 S4 Hv4 ad4 H4 e4 p4 s4 q5 σ4 re4 w4 => ⟨by
      rw [w4]
      have idem : ∀ (vs ws : List Nat) (τ : St), (∀ v ∈ vs, v ∈ ws) → wipe (wipe τ vs) ws = wipe τ ws := fun vs => by
        induction vs with
        | nil => intro ws τ _; rfl
        | cons v vs ih =>
          intro ws τ hv
          show wipe ((wipe τ vs).set v none) ws = _
          rw [wipe_set _ _ _ ws (hv v List.mem_cons_self)]
          exact ih ws τ fun u hu => hv u (List.mem_cons_of_mem _ hu)
      exact idem _ _ σ fun _ h => h, ?_⟩⟩
    refine ⟨Hv4, S4, ad4, env4, re4, s4, (Pst.noExc q5 σ4).mono fun b S5 Hv5 ad5 H5 e5 p5 s5 q6 => ?_⟩
    have e15 : Ex Hv1 Hv5 := e2.trans (e3.trans (e4.trans e5))
    have p15 : Pre (ad1 ++ [Dd]) ad5 := p2.trans (p4.trans p5)
    cases b with
    | false => exact ⟨Hv5, S5, ad5, e15, p15, s5, q6⟩
    | true =>
      show cE X.K cl WF te σ4 H5 _
      refine ⟨Hv5, S5, ad5, env4, re4.mono e5 p5, s5, (Pst.noExc q6 σ4).mono fun a S6 Hv6 ad6 H6 e6 p6 s6 q7 v6 r6 => ?_⟩
      split at q7
      · rename_i y acc eac
        by_cases hz : acc.length < 100000
        · rw [if_pos hz] at q7
          have p16 : Pre (ad1 ++ [Dd]) ad6 := p15.trans p6
          have hD6 : ad6[S1.length]? = some Dd := p16.get hDn
          obtain ⟨D', g1, g2, xs, g3, g4⟩ := s6.at_ _ _ eac
          rw [hD6] at g1
          cases g1
          refine ⟨xs, g3, Nat.lt_of_lt_of_le (by rw [g4.length]; exact hz) (by decide), Hv6, _, ad6, e15.trans e6, p16, s6.write eac hD6 (c' := .lst (acc ++ [y])) ⟨_, upd_same, g4.append (.cons r6 .nil)⟩, q7⟩
        · rw [if_neg hz] at q7
          exact q7.elim
      · exact q7.elim
  · refine .inl ⟨(wk i Hv2 H2 e2 s2.ex).1 (by omega), ?_⟩
    rw [List.drop_eq_nil_of_le (by omega)] at q3
    have q4 : Pst X.K cl W σ Hv2 ad1 (RA X.K cl Q) (lcEnd S1.length S2) := q3 Hv2 ad2 H2 (Ex.refl _) (Pre.refl _) s2
    unfold lcEnd at q4
    split at q4
    · rename_i acc eac
      obtain ⟨D', g1, g2, g3⟩ := s2.at_ _ _ eac
      rw [hD2] at g1
      cases g1
      obtain ⟨o, ho⟩ := g3.thing
      have s5 := (s2.freeze eac hD2 ho).take S1.length
      have ead : ad2.take S1.length = ad1 := (hpre.trans p2).take s1.len
      have eS : (S2.set S1.length none).take S1.length = S2.take S1.length := by rw [List.take_set_of_le (Nat.le_refl _)]
      rw [ead, eS] at s5
      exact q4 _ ad1 H2 (Ex.new g2) (Pre.refl _) s5 (.ref Dd) (g3.rep g2 ho rfl)
    · exact q4.elim
/-- the tests of a block -/
theorem pts_none : PTs X [] (cT X.K cl WF tYesE) := ⟨fun pins s σ H Q I ⟨Hv, S, ad, env, re, so, q⟩ => pts_nil.run pins s σ H Q I (q.hereB so)⟩
theorem pts_st {c : Expr} {f : Ev Bool} (h : ST X cl WF c f) : PTs X [c] (cT X.K cl WF f) := pts_one h.can
theorem se_lc (hc : X.calm = true) (hN : X.N.Nodup) (hi : SI X cl W tg iter src) (ok : BlkOk X.N X.env.scope scope own)
    (hg : ∀ (s : Shared) (H : Hp) (C : Addr) (c : List (Str × Addr)) (fp : List Addr), PG (X.blk s H scope (compEnvC scope c C X.env) fp) tg (cGx X.K cl (own.map (·.2)) g))
    (ht : ∀ (s : Shared) (H : Hp) (C : Addr) (c : List (Str × Addr)) (fp : List Addr), PTs (X.blk s H scope (compEnvC scope c C X.env) fp) ifs (cT X.K cl WF tt))
    (he : ∀ (s : Shared) (H : Hp) (C : Addr) (c : List (Str × Addr)) (fp : List Addr), SE (X.blk s H scope (compEnvC scope c C X.env) fp) cl WF elt te) (hs : ∀ x, foldedSetIterable iter X.env x = pure x := by intro _; rfl) :
    SE X cl W (.ListComp elt [⟨tg, iter, ifs, 0⟩] scope pos) (eLc (own.map (·.2)) src g tt te) :=
  ⟨_, pe_lc hc hN hi.can ok hg ht (fun s H C c fp => (he s H C c fp).can) hs, rd_lc⟩
/-- name = [..] -/
theorem ss_setLc (i : Nat) {y : Str} {py spos : Pos} (hc : X.calm = true) (hN : X.N.Nodup) (hsw : swapsWith (.ListComp elt [⟨tg, iter, ifs, 0⟩] scope pos) (some (.Name y py)) spos.line X.env = pure true) (hi : SI X cl W tg iter src) (ok : BlkOk X.N X.env.scope scope own)
    (hg : ∀ (s : Shared) (H : Hp) (C : Addr) (c : List (Str × Addr)) (fp : List Addr), PG (X.blk s H scope (compEnvC scope c C X.env) fp) tg (cGx X.K cl (own.map (·.2)) g))
    (ht : ∀ (s : Shared) (H : Hp) (C : Addr) (c : List (Str × Addr)) (fp : List Addr), PTs (X.blk s H scope (compEnvC scope c C X.env) fp) ifs (cT X.K cl WF tt))
    (he : ∀ (s : Shared) (H : Hp) (C : Addr) (c : List (Str × Addr)) (fp : List Addr), SE (X.blk s H scope (compEnvC scope c C X.env) fp) cl WF elt te) (hs : ∀ x, foldedSetIterable iter X.env x = pure x := by intro _; rfl)
    (hy : X.N[i]? = some y := by rfl) (hyl : X.env.scope.names.lookup y = some .local := by rfl) :
    SS X cl W (.Assign [.Name y py] (.ListComp elt [⟨tg, iter, ifs, 0⟩] scope pos) spos) (sSet i (eLc (own.map (·.2)) src g tt te)) :=
  ⟨_, ps_setLc hc hN hy hyl hsw hi.can ok hg ht (fun s H C c fp => (he s H C c fp).can) hs, fun σ Hv H S ad env Dn re so q =>
    rd_lc (X := X) σ Hv H S ad env _ re so ((q.bind re).mono fun a S1 Hv1 ad1 H1 e1 p1 s1 q1 v1 r1 => q1 _ Hv1 ad1 H1 (Ex.refl _) (Pre.refl _) s1 ((re.mono e1 p1).set i r1))⟩
end
end R


namespace R
open PySem L2

theorem opOr {X : Cx} {f : Value → Value → Sem Value} {r r' : R2} (h : OpR X f r) (h' : OpR X f r') : OpR X f (fun x y H Q => r x y H Q ∨ r' x y H Q) := fun pins s σ H x y v u Q I rx ry q =>
  q.elim (h pins s σ H x y v u Q I rx ry) (h' pins s σ H x y v u Q I rx ry)

/-! ### a datum as the model's plain data -/
mutual
def toPy : D → Option PyData
  | .non => some .none
  | .bl b => some (.bool b)
  | .int i => some (.int i)
  | .str x => some (.str x)
  | .tup xs => (toPys xs).map .tuple
  | .lst xs => (toPys xs).map .list
  | .dic _ _ => none
  | .obj _ _ _ => none
  | .exc _ _ _ => none
  | .scr _ => none
  | .ty _ => none
  | .cls _ => none
def toPys : List D → Option (List PyData)
  | [] => some []
  | x :: r => match toPy x, toPys r with
    | some a, some b => some (a :: b)
    | _, _ => none
end
section
variable {K : PySem.W.Frag} {cl : Nat → Addr} {H : Hp}
theorem rep_dp {v : V} {d : D} (h : Rep K cl H v d) : ∀ p, toPy d = some p → Dp K H v p :=
  Rep.rec (motive_1 := fun v d _ => ∀ p, toPy d = some p → Dp K H v p) (motive_2 := fun vs ds _ => ∀ ps, toPys ds = some ps → DpAll K H vs ps)
    (fun p e => by simp only [toPy, Option.some.injEq] at e; subst e; exact .non)
    (fun p e => by simp only [toPy, Option.some.injEq] at e; subst e; exact .bl _)
    (fun p e => by simp only [toPy, Option.some.injEq] at e; subst e; exact .int _)
    (fun p e => by simp only [toPy, Option.some.injEq] at e; subst e; exact .str _)
    (fun {a xs ds} hq _ ih p e => by
      simp only [toPy] at e
      cases q : toPys ds with
      | none => rw [q] at e; cases e
      | some ps =>
        rw [q] at e
        cases e
        exact .tup hq (ih ps q))
    (fun {a xs ds} hq _ ih p e => by
      simp only [toPy] at e
      cases q : toPys ds with
      | none => rw [q] at e; cases e
      | some ps =>
        rw [q] at e
        cases e
        exact .lst (.inl (.inl hq)) (ih ps q))
    (fun _ p e => by simp only [toPy] at e; cases e)
    (fun _ _ _ _ p e => by simp only [toPy] at e; cases e)
    (fun _ _ _ _ p e => by simp only [toPy] at e; cases e)
    (fun _ _ _ _ p e => by simp only [toPy] at e; cases e)
    (fun _ _ _ _ _ _ _ p e => by simp only [toPy] at e; cases e)
    (fun _ _ p e => by simp only [toPy] at e; cases e)
    (fun p e => by simp only [toPy] at e; cases e)
    (fun p e => by simp only [toPy] at e; cases e)
    (fun ps e => by simp only [toPys, Option.some.injEq] at e; subst e; exact .nil)
    (fun {v d vs ds} _ _ ih1 ih2 ps e => by
      simp only [toPys] at e
      cases q1 : toPy d with
      | none => rw [q1] at e; cases e
      | some p =>
        cases q2 : toPys ds with
        | none => rw [q1, q2] at e; cases e
        | some r =>
          rw [q1, q2] at e
          cases e
          exact .cons (ih1 p q1) (ih2 r q2)) h
end

theorem reps_dp {K : PySem.W.Frag} {cl : Nat → Addr} {H : Hp} : ∀ {vs : List V} {ds : List D} {ps : List PyData}, Reps K cl H vs ds → toPys ds = some ps → DpAll K H vs ps
  | _, _, _, .nil, h => by
    simp only [toPys, Option.some.injEq] at h
    subst h
    exact .nil
  | _, _, ps, .cons (d := d) (ds := ds) r rs, h => by
    simp only [toPys] at h
    cases q1 : toPy d with
    | none => rw [q1] at h; cases h
    | some p =>
      cases q2 : toPys ds with
      | none => rw [q1, q2] at h; cases h
      | some t =>
        rw [q1, q2] at h
        cases h
        exact .cons (rep_dp r p q1) (reps_dp rs q2)
/-! ### what a list is to be read as -/
def lst? (S : Store) : A → Option (List D)
  | .val (.lst ds) => some ds
  | .loc n => match S[n]? with
    | some (some (.lst ds)) => some ds
    | _ => none
  | _ => none
def tup? : A → Option (List D)
  | .val (.tup ds) => some ds
  | _ => none
section
variable {K : PySem.W.Frag} {cl : Nat → Addr} {Hv H : Hp} {S : Store} {ad : List Addr}
theorem lst_at {v : V} {a : A} {ds : List D} (so : StOk K cl Hv H S ad) (r : RepA K cl Hv ad v a) (e : lst? S a = some ds) : ∃ p xs, v = .ref p ∧ H p = some (.lst xs) ∧ Reps K cl Hv xs ds := by
  cases a with
  | val d =>
    cases d <;> first
      | (cases e; cases r with | lst h rs => exact ⟨_, _, rfl, so.ex _ _ h, rs⟩)
      | cases e
  | loc n =>
    obtain ⟨p, rfl, hp⟩ := r
    unfold lst? at e
    dsimp only at e
    split at e
    · rename_i es q
      cases e
      obtain ⟨p', h1, _, xs, h3, h4⟩ := so.at_ n _ q
      rw [hp] at h1
      cases h1
      exact ⟨p, xs, rfl, h3, h4⟩
    · cases e
theorem tup_at {v : V} {a : A} {ds : List D} (so : StOk K cl Hv H S ad) (r : RepA K cl Hv ad v a) (e : tup? a = some ds) : ∃ p xs, v = .ref p ∧ SqT K H p xs ∧ Reps K cl Hv xs ds := by
  cases a with
  | val d =>
    cases d <;> first
      | (cases e; cases r with | tup h rs => exact ⟨_, _, rfl, ex_t so.ex h, rs⟩)
      | cases e
  | loc n => cases e
end

/-! ### arithmetic and sums -/
def hAdd (a b : A) (S : Store) : Out A := match a, b with
  | .val (.int i), .val (.int j) => .ok (.val (.int (i + j))) S
  | .val (.str x), .val (.str y) => if x.length + y.length ≤ 100000 then .ok (.val (.str (x ++ y))) S else .bad
  | .val (.lst xs), .val (.lst ys) => if xs.length + ys.length ≤ 100000 then .ok (.val (.lst (xs ++ ys))) S else .bad
  | .val (.tup xs), .val (.tup ys) => if xs.length + ys.length ≤ 100000 ∧ xs ≠ [] then .ok (.val (.tup (xs ++ ys))) S else .bad
  | _, _ => .bad
def hInt (C : Int → Int → Bool) (g : Int → Int → D) (a b : A) (S : Store) : Out A := match a, b with
  | .val (.int i), .val (.int j) => if C i j = true then .ok (.val (g i j)) S else .bad
  | _, _ => .bad
def yes2 : Int → Int → Bool := fun _ _ => true
def hSub := hInt yes2 fun i j => .int (i - j)
def mulOk (i j : Int) : Bool := decide (i.natAbs < 2 ^ 64) || (decide (j.natAbs < 2 ^ 64) || decide (i.natAbs.log2 + j.natAbs.log2 < 1000000))
theorem mulOk_ok {i j : Int} (h : mulOk i j = true) : IntMulOk i j := by
  unfold mulOk at h
  rcases (Bool.or_eq_true _ _).mp h with h | h
  · have h := of_decide_eq_true h
    exact CMul.ok (.inl (by omega))
  · rcases (Bool.or_eq_true _ _).mp h with h | h
    · have h := of_decide_eq_true h
      exact CMul.ok (.inr (by omega))
    · have h2 : i.natAbs.log2 + j.natAbs.log2 < 1000000 := of_decide_eq_true h
      exact CMulW.ok (show CMulW i j from h2)
def hMul := hInt mulOk fun i j => .int (i * j)
def divOk (_ j : Int) : Bool := decide (0 < j) && decide (j.natAbs.log2 < 9000)
def hDiv := hInt divOk fun i j => .int (i / j)
def hMod := hInt (fun _ j => decide (0 < j)) fun i j => .int (i % j)
def powOk (i j : Int) : Bool := decide (0 ≤ j) && (decide (j ≤ 1000000) && decide (i.natAbs < 2 ^ 64))
def hPow := hInt powOk fun i j => .int (i ^ j.toNat)
def hLt := hInt yes2 fun i j => .bl (decide (i < j))
def hLe := hInt yes2 fun i j => .bl (decide (i ≤ j))
def hGt := hInt yes2 fun i j => .bl (decide (j < i))
def hGe := hInt yes2 fun i j => .bl (decide (j ≤ i))
/-- == of plain data -/
def pyA (S : Store) (a : A) : Option PyData := match lst? S a with
  | some ds => (toPys ds).map .list
  | none => match a with
    | .val d => toPy d
    | .loc _ => none
def eqPy (S : Store) (a b : A) : Option Bool := match pyA S a, pyA S b with
  | some p, some q => if SeqAt.shaped p = true ∧ SeqAt.shaped q = true then some (PyData.eqv p q) else none
  | _, _ => none
/-- texts of any kind -/
def eqS (a b : A) : Option Bool := match a, b with
  | .val (.str x), .val (.str y) => some (x == y)
  | _, _ => none
def eqA (S : Store) (a b : A) : Option Bool := match eqS a b with
  | some k => some k
  | none => eqPy S a b
def hEq (a b : A) (S : Store) : Out A := match eqA S a b with
  | some k => .ok (.val (.bl k)) S
  | none => .bad
def hNe (a b : A) (S : Store) : Out A := match eqA S a b with
  | some k => .ok (.val (.bl (!k))) S
  | none => .bad
def hIsN (a : A) (b : A) (S : Store) : Out A := match a, b with
  | .val .non, .val .non => .ok (.val (.bl true)) S
  | .val _, .val .non => .ok (.val (.bl false)) S
  | .loc _, .val .non => .ok (.val (.bl false)) S
  | _, _ => .bad
def hIsNot (a : A) (b : A) (S : Store) : Out A := match a, b with
  | .val .non, .val .non => .ok (.val (.bl false)) S
  | .val _, .val .non => .ok (.val (.bl true)) S
  | .loc _, .val .non => .ok (.val (.bl true)) S
  | _, _ => .bad
def hNeg (a : A) (S : Store) : Out A := match a with
  | .val (.int i) => .ok (.val (.int (-i))) S
  | _ => .bad

section
variable {X : Cx} {cl : Nat → Addr} {W : WX}
theorem rd_int {C : Int → Int → Bool} {C' : Int → Int → Prop} {g : Int → Int → D} {g' : Int → Int → V} (hC : ∀ i j, C i j = true → C' i j) (hg : ∀ Hv i j, Rep X.K cl Hv (g' i j) (g i j)) : RdO X.K cl W (rI C' g') (hInt C g) := fun σ Hv H S ad x y a b Q so rx ry q => by
  unfold hInt at q
  split at q
  · rename_i i j
    cases rx
    cases ry
    by_cases h : C i j = true
    · rw [if_pos h] at q
      exact ⟨i, j, rfl, rfl, hC i j h, q.here so _ (hg Hv i j)⟩
    · rw [if_neg h] at q
      exact q.elim
  · exact q.elim
theorem rd_int0 {g : Int → Int → D} {g' : Int → Int → V} (hg : ∀ Hv i j, Rep X.K cl Hv (g' i j) (g i j)) : RdO X.K cl W (rI0 g') (hInt yes2 g) := fun σ Hv H S ad x y a b Q so rx ry q => by
  unfold hInt at q
  split at q
  · rename_i i j
    cases rx
    cases ry
    rw [if_pos (show yes2 i j = true from rfl)] at q
    exact ⟨i, j, rfl, rfl, q.here so _ (hg Hv i j)⟩
  · exact q.elim
theorem o_sub : ∃ r, OpR X (binaryOp .Sub) r ∧ RdO X.K cl W r hSub := ⟨_, op_sub, rd_int0 fun _ _ _ => .int⟩
theorem o_mul : ∃ r, OpR X (binaryOp .Mult) r ∧ RdO X.K cl W r hMul := ⟨_, opI (C := fun i j => mulOk i j = true) fun _ _ _ _ _ _ _ hc q => PyProof.Rows.mul_int q (mulOk_ok hc), rd_int (fun i j h => h) fun _ _ _ => .int⟩
theorem o_div : ∃ r, OpR X (binaryOp .FloorDiv) r ∧ RdO X.K cl W r hDiv := ⟨_, op_fdivW, rd_int (fun i j h => by
  have h2 := Bool.and_eq_true_iff.mp h
  exact ⟨of_decide_eq_true h2.1, of_decide_eq_true h2.2⟩) fun _ _ _ => .int⟩
theorem o_mod : ∃ r, OpR X (binaryOp .Mod) r ∧ RdO X.K cl W r hMod := ⟨_, op_mod, rd_int (fun _ _ h => of_decide_eq_true h) fun _ _ _ => .int⟩
theorem o_pow : ∃ r, OpR X (binaryOp .Pow) r ∧ RdO X.K cl W r hPow := ⟨_, op_pow, rd_int (fun i j h => by
  have h2 := Bool.and_eq_true_iff.mp h
  have h3 := Bool.and_eq_true_iff.mp h2.2
  exact ⟨of_decide_eq_true h2.1, of_decide_eq_true h3.1, of_decide_eq_true h3.2⟩) fun _ _ _ => .int⟩
theorem o_lt : ∃ r, OpR X (compareOp .Lt) r ∧ RdO X.K cl W r hLt := ⟨_, op_lt, rd_int0 fun _ _ _ => .bl⟩
theorem o_le : ∃ r, OpR X (compareOp .LtE) r ∧ RdO X.K cl W r hLe := ⟨_, op_le, rd_int0 fun _ _ _ => .bl⟩
theorem o_gt : ∃ r, OpR X (compareOp .Gt) r ∧ RdO X.K cl W r hGt := ⟨_, op_gt, rd_int0 fun _ _ _ => .bl⟩
theorem o_ge : ∃ r, OpR X (compareOp .GtE) r ∧ RdO X.K cl W r hGe := ⟨_, op_ge, rd_int0 fun _ _ _ => .bl⟩
theorem o_add : ∃ r, OpR X (binaryOp .Add) r ∧ RdO X.K cl W r hAdd := by
  refine ⟨_, opOr op_add (opOr op_add_str (opOr op_cat op_catT)), fun σ Hv H S ad x y a b Q so rx ry q => ?_⟩
  unfold hAdd at q
  split at q
  · rename_i i j
    cases rx
    cases ry
    exact .inl ⟨i, j, rfl, rfl, q.here so _ .int⟩
  · rename_i s t
    cases rx
    cases ry
    split at q
    · rename_i hl
      exact .inr (.inl ⟨s, t, rfl, rfl, sz_of hl, q.here so _ .str⟩)
    · exact q.elim
  · rename_i xs ys
    cases rx with
    | lst h1 r1 =>
      cases ry with
      | lst h2 r2 =>
        split at q
        · rename_i hl
          refine .inr (.inr (.inl ⟨_, _, _, _, rfl, rfl, so.ex _ _ h1, so.ex _ _ h2, sz_of (by rw [r1.length, r2.length]; exact hl), fun p hp => q.made so hp (.lst upd_same ((r1.append r2).mono (Ex.new (so.ex.nn hp))))⟩))
        · exact q.elim
  · rename_i xs ys
    cases rx with
    | tup h1 r1 =>
      cases ry with
      | tup h2 r2 =>
        split at q
        · rename_i hl
          obtain ⟨hl, hn⟩ := hl
          have hx : ∀ {zs : List V} {ds : List D}, Reps X.K cl Hv zs ds → (zs = [] ↔ ds = []) := fun r => by
            cases r with
            | nil => simp
            | cons _ _ => simp
          refine .inr (.inr (.inr ⟨_, _, _, _, rfl, rfl, ex_t so.ex h1, ex_t so.ex h2, fun z => hn ((hx r1).mp z), sz_of (by rw [r1.length, r2.length]; exact hl), fun z => ?_, fun z p hp => ?_⟩))
          · have hy := (hx r2).mp z
            subst hy
            rw [List.append_nil] at q
            exact q.here so _ (.tup h1 r1)
          · exact q.made so hp (.tup (.inl (.inl upd_same)) ((r1.append r2).mono (Ex.new (so.ex.nn hp))))
        · exact q.elim
  · exact q.elim
theorem pyA_dp {Hv H : Hp} {S : Store} {ad : List Addr} {x : V} {a : A} {p : PyData} (so : StOk X.K cl Hv H S ad) (rx : RepA X.K cl Hv ad x a) (h : pyA S a = some p) : Dp X.K H x p := by
  unfold pyA at h
  split at h
  · rename_i ds e
    obtain ⟨q, xs, rfl, h1, rs⟩ := lst_at so rx e
    cases et : toPys ds with
    | none => rw [et] at h; cases h
    | some ps =>
      rw [et] at h
      cases h
      exact .lst (.inl (.inl h1)) (reps_dp (rs.mono so.ex) et)
  · cases a with
    | val d => exact rep_dp (Rep.mono so.ex rx) p h
    | loc n => cases h
theorem eqPy_dp {Hv H : Hp} {S : Store} {ad : List Addr} {x y : V} {a b : A} {k : Bool} (so : StOk X.K cl Hv H S ad) (rx : RepA X.K cl Hv ad x a) (ry : RepA X.K cl Hv ad y b) (h : eqPy S a b = some k) :
    ∃ p q, Dp X.K H x p ∧ Dp X.K H y q ∧ SeqAt.shaped p = true ∧ SeqAt.shaped q = true ∧ k = PyData.eqv p q := by
  unfold eqPy at h
  split at h
  · rename_i p q e1 e2
    split at h
    · rename_i hs
      cases h
      exact ⟨p, q, pyA_dp so rx e1, pyA_dp so ry e2, hs.1, hs.2, rfl⟩
    · cases h
  · cases h
theorem eqS_ok {Hv : Hp} {ad : List Addr} {x y : V} {a b : A} {k : Bool} (rx : RepA X.K cl Hv ad x a) (ry : RepA X.K cl Hv ad y b) (h : eqS a b = some k) : scal x y = true ∧ decide (x = y) = k := by
  unfold eqS at h
  split at h
  · rename_i z u
    cases h
    cases rx
    cases ry
    exact ⟨rfl, by rw [Bool.eq_iff_iff]; simp⟩
  · cases h
theorem o_eq (hr : X.A.units + 64 < cLine) : ∃ r, OpR X (compareOp .Eq) r ∧ RdO X.K cl W r hEq := by
  refine ⟨_, opOr op_eq (op_eqD hr), fun σ Hv H S ad x y a b Q so rx ry q => ?_⟩
  unfold hEq eqA at q
  cases es : eqS a b with
  | some k =>
    rw [es] at q
    obtain ⟨h1, rfl⟩ := eqS_ok rx ry es
    exact .inl ⟨h1, Pst.here so q _ .bl⟩
  | none =>
    rw [es] at q
    dsimp only at q
    split at q
    · rename_i k e
      obtain ⟨p, r, h1, h2, h3, h4, rfl⟩ := eqPy_dp so rx ry e
      exact .inr ⟨p, r, h1, h2, h3, h4, q.here so _ .bl⟩
    · exact q.elim
theorem o_ne (hr : X.A.units + 64 < cLine) : ∃ r, OpR X (compareOp .NotEq) r ∧ RdO X.K cl W r hNe := by
  refine ⟨_, opOr op_ne (op_neD hr), fun σ Hv H S ad x y a b Q so rx ry q => ?_⟩
  unfold hNe eqA at q
  cases es : eqS a b with
  | some k =>
    rw [es] at q
    obtain ⟨h1, rfl⟩ := eqS_ok rx ry es
    exact .inl ⟨h1, Pst.here so q _ .bl⟩
  | none =>
    rw [es] at q
    dsimp only at q
    split at q
    · rename_i k e
      obtain ⟨p, r, h1, h2, h3, h4, rfl⟩ := eqPy_dp so rx ry e
      exact .inr ⟨p, r, h1, h2, h3, h4, q.here so _ .bl⟩
    · exact q.elim
theorem rep_non {Hv : Hp} {v : V} {d : D} (r : Rep X.K cl Hv v d) : v = .non ↔ d = .non := by
  cases r <;> simp
theorem o_isN : ∃ r, OpR X (compareOp .Is) r ∧ RdO X.K cl W r hIsN := by
  refine ⟨_, op_isN, fun σ Hv H S ad x y a b Q so rx ry q => ?_⟩
  unfold hIsN at q
  split at q
  · cases rx
    cases ry
    exact ⟨rfl, q.here so _ .bl⟩
  · rename_i d hd
    cases ry
    have hx : x ≠ .non := fun z => hd ((rep_non (d := d) rx).mp z)
    rw [decide_eq_false hx]
    exact ⟨rfl, q.here so _ .bl⟩
  · cases ry
    obtain ⟨p, rfl, _⟩ := rx
    exact ⟨rfl, q.here so _ .bl⟩
  · exact q.elim
theorem o_isNot : ∃ r, OpR X (compareOp .IsNot) r ∧ RdO X.K cl W r hIsNot := by
  refine ⟨_, op_notN, fun σ Hv H S ad x y a b Q so rx ry q => ?_⟩
  unfold hIsNot at q
  split at q
  · cases rx
    cases ry
    exact ⟨rfl, q.here so _ .bl⟩
  · rename_i d hd
    cases ry
    have hx : x ≠ .non := fun z => hd ((rep_non (d := d) rx).mp z)
    rw [decide_eq_false hx]
    exact ⟨rfl, q.here so _ .bl⟩
  · cases ry
    obtain ⟨p, rfl, _⟩ := rx
    exact ⟨rfl, q.here so _ .bl⟩
  · exact q.elim
theorem u_neg : ∃ r, UnR X (unaryOp .USub) r ∧ RdU X.K cl W r hNeg := by
  refine ⟨_, un_neg, fun σ Hv H S ad x a Q so rx q => ?_⟩
  unfold hNeg at q
  split at q
  · cases rx
    exact ⟨_, rfl, q.here so _ .int⟩
  · exact q.elim
end
end R


namespace R
open PySem L2

/-! ### items, slices -/
def hIx (a b : A) (S : Store) : Out A := match b with
  | .val (.int i) => (match lst? S a with
    | some ds => (match atI ds i with
      | some d => .ok (.val d) S
      | none => .bad)
    | none => match tup? a with
      | some ds => (match atI ds i with
        | some d => .ok (.val d) S
        | none => .bad)
      | none => match a with
        | .val (.str z) => if z.length ≤ 100000 then (match atI z.cps.toList i with
          | some c => .ok (.val (.str ⟨#[c]⟩)) S
          | none => .bad) else .bad
        | _ => .bad)
  | _ => .bad
def cutD (ds : List D) (lo hi : Option Int) : List D := (ds.drop (HT.sIx ds.length 0 lo)).take (HT.sIx ds.length ds.length hi - HT.sIx ds.length 0 lo)
def hSl (a : A) (lo hi : Option Int) (S : Store) : Out A := match a with
  | .val (.scr ns) => .ok (.val (.lst (cutD (ns.map D.int) lo hi))) S
  | a => match lst? S a with
    | some ds => .ok (.val (.lst (cutD ds lo hi))) S
    | none => .bad
abbrev EvO := Env → Store → Out (Option Int)
def oNone : EvO := fun _ S => .ok none S
def oSome (f : Ev A) : EvO := fun env S => (f env S).bind fun a S1 => match a with
  | .val (.int i) => .ok (some i) S1
  | _ => .bad
def eSl (f : Ev A) (lo hi : EvO) : Ev A := fun env S => (f env S).bind fun a S1 => (lo env S1).bind fun l S2 => (hi env S2).bind fun h S3 => hSl a l h S3
structure SO (X : Cx) (cl : Nat → Addr) (W : WX) (e : Option Expr) (f : EvO) : Prop where
  ex : ∃ t : TO, PO X e t ∧ ∀ (σ : St) (Hv H : Hp) (S : Store) (ad : List Addr) (env : Env) (Q : Option Int → Hp → Prop), RepEnv X.K cl Hv ad σ env → StOk X.K cl Hv H S ad → Pst X.K cl W σ Hv ad (fun o _ _ _ H' => Q o H') (f env S) → t σ H Q
theorem Reps.atI {K : PySem.W.Frag} {cl : Nat → Addr} {H : Hp} {xs : List V} {ds : List D} {i : Int} {d : D} (r : Reps K cl H xs ds) (h : L2.atI ds i = some d) : ∃ v, L2.atI xs i = some v ∧ Rep K cl H v d := by
  unfold L2.atI at h ⊢
  rw [r.length]
  cases q : ixN ds.length i with
  | none =>
    rw [q] at h
    cases h
  | some j =>
    rw [q] at h
    exact r.get h
theorem Reps.cut {K : PySem.W.Frag} {cl : Nat → Addr} {H : Hp} {xs : List V} {ds : List D} (r : Reps K cl H xs ds) (lo hi : Option Int) : Reps K cl H (cutV xs lo hi) (cutD ds lo hi) := by
  unfold cutV cutD
  rw [r.length]
  exact (r.drop _).take _
section
variable {X : Cx} {cl : Nat → Addr} {W : WX} {a b : Expr} {pos p2 : Pos}
theorem rd_ix : RdO X.K cl W (rIx X.K) hIx := fun σ Hv H S ad x y a b Q so rx ry q => by
  unfold hIx at q
  split at q
  · rename_i i
    cases ry
    split at q
    · rename_i ds e
      split at q
      · rename_i d ed
        obtain ⟨p, xs, rfl, h1, rs⟩ := lst_at so rx e
        obtain ⟨v, hv, rv⟩ := rs.atI ed
        exact .inl ⟨p, xs, i, v, rfl, rfl, .inl (.inl h1), hv, q.here so v rv⟩
      · exact q.elim
    · split at q
      · rename_i ds e
        split at q
        · rename_i d ed
          obtain ⟨p, xs, rfl, h1, rs⟩ := tup_at so rx e
          obtain ⟨v, hv, rv⟩ := rs.atI ed
          exact .inr (.inl ⟨p, xs, i, v, rfl, rfl, h1, hv, q.here so v rv⟩)
        · exact q.elim
      · split at q
        · rename_i z _ _
          cases rx
          split at q
          · rename_i hz
            split at q
            · rename_i c hc
              exact .inr (.inr ⟨z, i, c, rfl, rfl, sz_of hz, hc, q.here so _ .str⟩)
            · exact q.elim
          · exact q.elim
        · exact q.elim
  · exact q.elim
theorem se_ix {f g : Ev A} (ha : SE X cl W a f) (hb : SE X cl W b g) (hs : PlainIx b := by intro _ _; rfl) : SE X cl W (.Subscript a b pos) (eOp hIx f g) :=
  let ⟨_, pa, ra⟩ := ha.ex
  let ⟨_, pb, rb⟩ := hb.ex
  ⟨_, pe_ix ix_seq pa pb hs, rd_op ra rb rd_ix⟩
theorem so_none : SO X cl W none oNone := ⟨_, po_none, fun σ Hv H S ad env Q re so q => q Hv ad H (Ex.refl _) (Pre.refl _) so⟩
theorem so_some {f : Ev A} (h : SE X cl W a f) : SO X cl W (some a) (oSome f) :=
  let ⟨_, p, r⟩ := h.ex
  ⟨_, po_some p, fun σ Hv H S ad env Q re so q => r σ Hv H S ad env _ re so (q.bind.mono fun z S1 Hv1 ad1 H1 e1 p1 s1 q1 v r1 => by
    split at q1
    · cases r1
      exact ⟨_, rfl, q1 Hv1 ad1 H1 (Ex.refl _) (Pre.refl _) s1⟩
    · exact q1.elim)⟩
theorem se_sl {lo hi : Option Expr} {f : Ev A} {g h : EvO} (ha : SE X cl W a f) (hl : SO X cl W lo g) (hh : SO X cl W hi h) : SE X cl W (.Subscript a (.Slice lo hi none p2) pos) (eSl f g h) := by
  obtain ⟨_, pa, ra⟩ := ha.ex
  obtain ⟨_, pl, rl⟩ := hl.ex
  obtain ⟨_, ph, rh⟩ := hh.ex
  refine ⟨_, pe_slice sl_list pa pl ph, fun σ Hv H S ad env Q re so q => ?_⟩
  refine ra σ Hv H S ad env _ re so (q.bind.mono fun z S1 Hv1 ad1 H1 e1 p1 s1 q1 v r1 => ?_)
  refine rl σ Hv1 H1 S1 ad1 env _ (re.mono e1 p1) s1 (q1.bind.mono fun l S2 Hv2 ad2 H2 e2 p2 s2 q2 => ?_)
  refine rh σ Hv2 H2 S2 ad2 env _ ((re.mono e1 p1).mono e2 p2) s2 (q2.bind.mono fun u S3 Hv3 ad3 H3 e3 p3 s3 q3 => ?_)
  have r3 := (r1.mono e2 p2).mono e3 p3
  unfold hSl at q3
  split at q3
  · rename_i ns
    cases r3 with
    | scr hq => exact ⟨_, _, rfl, ex_l s3.ex hq, fun p hp => q3.made s3 hp (.lst upd_same (((reps_ints ns).cut l u).mono (Ex.new (s3.ex.nn hp))))⟩
  · split at q3
    · rename_i ds e
      obtain ⟨p, xs, rfl, h1, rs⟩ := lst_at s3 r3 e
      exact ⟨p, xs, rfl, .inl (.inl h1), fun p hp => q3.made s3 hp (.lst upd_same ((rs.cut l u).mono (Ex.new (s3.ex.nn hp))))⟩
    · exact q3.elim
/-! ### xs[i] = v of a list at a place of the store -/
def gItem (fo fi : Ev A) : A → Ev Env := fun a env S => match a with
  | .val d => (fo env S).bind fun o S1 => (fi env S1).bind fun i S2 => match o, i with
    | .loc n, .val (.int k) => (match S2[n]? with
      | some (some (.lst ds)) => (match ixN ds.length k with
        | some j => .ok env (S2.set n (some (.lst (ds.set j d))))
        | none => .bad)
      | _ => .bad)
    | _, _ => .bad
  | .loc _ => .bad
theorem sg_item {o i : Expr} {fo fi : Ev A} (ho : SE X cl W o fo) (hi : SE X cl W i fi)
    (ha : ∀ v, assign (.Subscript o i pos) X.env v = (do
      let ov ← holding [v] (eval o X.env)
      let iv ← holding [v, ov] (eval i X.env)
      standAt pos
      holding [v, ov, iv] (setItem ov iv v)
      release [v, ov, iv] []) := by intro _; rfl) : SG X cl W (.Subscript o i pos) (gItem fo fi) := by
  obtain ⟨_, po, ro⟩ := ho.ex
  obtain ⟨_, pi, ri⟩ := hi.ex
  refine ⟨_, pg_sub po pi set_list ha, fun σ Hv H S ad env v a Q re so r q => ?_⟩
  unfold gItem at q
  cases a with
  | loc n => exact q.elim
  | val d =>
    refine ro σ Hv H S ad env _ re so (Pst.mono (Pst.bind q) fun z S1 Hv1 ad1 H1 e1 p1 s1 q1 v1 r1 => ?_)
    refine ri σ Hv1 H1 S1 ad1 env _ (re.mono e1 p1) s1 (q1.bind.mono fun w S2 Hv2 ad2 H2 e2 p2 s2 q2 v2 r2 => ?_)
    split at q2
    · rename_i n k
      split at q2
      · rename_i ds e
        split at q2
        · rename_i j ej
          obtain ⟨p, rfl, hp⟩ := r1.mono e2 p2
          cases r2
          obtain ⟨p', g1, g2, xs, g3, g4⟩ := s2.at_ n _ e
          rw [hp] at g1
          cases g1
          exact ⟨p, xs, k, j, rfl, rfl, g3, by rw [g4.length]; exact ej, q2 Hv2 ad2 _ (Ex.refl _) (Pre.refl _) (s2.write (c' := .lst (ds.set j d)) e hp ⟨_, upd_same, g4.set (Rep.mono (e1.trans e2) r) j⟩) σ ((re.mono e1 p1).mono e2 p2)⟩
        · exact q2.elim
      · exact q2.elim
    · exact q2.elim
/-! ### xs.append(e) -/
def eAppend (fo fe : Ev A) : Ev A := fun env S => (fo env S).bind fun o S1 => match lst? S1 o with
  | some _ => (fe env S1).bind fun a S2 => (match o, a with
    | .loc n, .val d => (match S2[n]? with
      | some (some (.lst ds)) => if ds.length < 100000 then .ok (.val .non) (S2.set n (some (.lst (ds ++ [d])))) else .bad
      | _ => .bad)
    | _, _ => .bad)
  | none => .bad
theorem se_append {o e : Expr} {fo fe : Ev A} {apos cpos : Pos} (ho : SE X cl W o fo) (he : SE X cl W e fe) (hbase : attributeBase o "append" X.env (eval o X.env) = eval o X.env := by rfl)
    (hfew : ((backTo cpos (starEach [e] X.env)).all (fun x => !x.1) && (backToKw cpos (keywordEach [] X.env)).all (fun x => x.1.isSome)
      && decide (([e] : List Expr).length + ([] : List Keyword).length + (if ([] : List Keyword).isEmpty then 0 else 1) < 30)) = true := by rfl)
    (hline : (apos.endLine == cpos.line) = true := by rfl) (hs : starEach [e] X.env = (false, eval e X.env) :: starEach [] X.env := by rfl) (hplain : (backTo cpos (starEach [] X.env)).any (·.1) = false := by rfl) :
    SE X cl W (.Call (.Attribute o "append" apos) [e] [] cpos) (eAppend fo fe) := by
  obtain ⟨_, po, ro⟩ := ho.ex
  obtain ⟨_, pe, re'⟩ := he.ex
  refine ⟨_, pe_bm PySem.F.plainAttrs_list PySem.F.slot_list_append PySem.F.type_list_append mt_append po (pa_cons pe pa_nil hs) hbase hfew hline hs hplain, fun σ Hv H S ad env Q re so q => ?_⟩
  refine ro σ Hv H S ad env _ re so (q.bind.mono fun z S1 Hv1 ad1 H1 e1 p1 s1 q1 v1 r1 => ?_)
  split at q1
  · rename_i ds0 e0
    obtain ⟨p0, xs0, rfl, h0, _⟩ := lst_at s1 r1 e0
    refine ⟨.inl ⟨rfl, xs0, .inl (.inl h0)⟩, re' σ Hv1 H1 S1 ad1 env _ (re.mono e1 p1) s1 (q1.bind.mono fun w S2 Hv2 ad2 H2 e2 p2 s2 q2 v2 r2 => ?_)⟩
    split at q2
    · rename_i n d
      split at q2
      · rename_i ds ee
        split at q2
        · rename_i hz
          obtain ⟨p, e3, hp⟩ := r1.mono e2 p2
          cases e3
          obtain ⟨p', g1, g2, xs, g3, g4⟩ := s2.at_ n _ ee
          rw [hp] at g1
          cases g1
          exact ⟨p0, xs, v2, rfl, rfl, g3, Nat.lt_of_lt_of_le (by rw [g4.length]; exact hz) (by decide), q2 Hv2 ad2 _ (Ex.refl _) (Pre.refl _) (s2.write (c' := .lst (ds ++ [d])) ee hp ⟨_, upd_same, g4.append (.cons r2 .nil)⟩) .non .non⟩
        · exact q2.elim
      · exact q2.elim
    · exact q2.elim
  · exact q1.elim
end

/-! ### calls of built-ins -/
section
variable {X : Cx} {cl : Nat → Addr} {W : WX} {e : Expr} {es : List Expr} {x : Str} {id T : String} {p pos : Pos} {h : List A → Store → Out A} {f : Ev (List A)}
theorem se_callB (hc : ∃ r, CallR X (.builtin id) r ∧ RdC X.K cl W r h) (hm : X.mg x = none) (ha : SA X cl W (e :: es) f) (hv : bootBuiltins x = some (.builtin id) := by decide +kernel) (hg : Gl X x := by rfl) (hn : x ≠ "__name__" := by decide) (hdb : (x == ("__debug__" : Str)) = false := by decide)
    (he : starEach (e :: es) X.env = (false, eval e X.env) :: starEach es X.env := by rfl) (hpl : (backTo pos (starEach es X.env)).any (·.1) = false := by rfl) : SE X cl W (.Call (.Name x p) (e :: es) [] pos) (eApp h f) := by
  obtain ⟨_, hc, rc⟩ := hc
  obtain ⟨_, pa, ra⟩ := ha.ex
  exact ⟨_, pe_callB hc hg hm hv pa hn hdb he hpl, fun σ Hv H S ad env Q re so q => ra σ Hv H S ad env _ re so (q.bind.mono fun as S1 Hv1 ad1 H1 e1 p1 s1 q1 vs r1 => rc σ Hv1 H1 S1 ad1 vs as Q s1 r1 q1)⟩
theorem se_callT (hc : ∃ r, CallR X (.type T) r ∧ RdC X.K cl W r h) (hm : X.mg x = none) (ha : SA X cl W (e :: es) f) (hv : bootBuiltins x = some (.type T) := by decide +kernel) (hg : Gl X x := by rfl) (hn : x ≠ "__name__" := by decide) (hdb : (x == ("__debug__" : Str)) = false := by decide)
    (he : starEach (e :: es) X.env = (false, eval e X.env) :: starEach es X.env := by rfl) (hpl : (backTo pos (starEach es X.env)).any (·.1) = false := by rfl) : SE X cl W (.Call (.Name x p) (e :: es) [] pos) (eApp h f) := by
  obtain ⟨_, hc, rc⟩ := hc
  obtain ⟨_, pa, ra⟩ := ha.ex
  exact ⟨_, pe_callTy hc hg hm hv pa hn hdb he hpl, fun σ Hv H S ad env Q re so q => ra σ Hv H S ad env _ re so (q.bind.mono fun as S1 Hv1 ad1 H1 e1 p1 s1 q1 vs r1 => rc σ Hv1 H1 S1 ad1 vs as Q s1 r1 q1)⟩
def hLen (as : List A) (S : Store) : Out A := match as with
  | [a] => (match lst? S a with
    | some ds => .ok (.val (.int ds.length)) S
    | none => match tup? a with
      | some ds => .ok (.val (.int ds.length)) S
      | none => match a with
        | .val (.str z) => if z.length ≤ 100000 then .ok (.val (.int z.length)) S else .bad
        | _ => .bad)
  | _ => .bad
theorem b_len : ∃ r, CallR X (.builtin "len") r ∧ RdC X.K cl W r hLen := by
  refine ⟨_, CallR.or call_len_seq call_len_str, fun σ Hv H S ad xs as Q so rs q => ?_⟩
  unfold hLen at q
  split at q
  · rename_i a
    obtain ⟨v, rfl, r1⟩ := rep1 rs
    split at q
    · rename_i ds e
      obtain ⟨p, ys, rfl, h1, r2⟩ := lst_at so r1 e
      refine .inl ⟨p, ys, rfl, .inl (.inl (.inl h1)), ?_⟩
      rw [r2.length]
      exact q.here so _ .int
    · split at q
      · rename_i ds e
        obtain ⟨p, ys, rfl, h1, r2⟩ := tup_at so r1 e
        refine .inl ⟨p, ys, rfl, .inr h1, ?_⟩
        rw [r2.length]
        exact q.here so _ .int
      · split at q
        · rename_i z _ _
          cases r1
          split at q
          · rename_i hz
            exact .inr ⟨z, rfl, sz_of hz, q.here so _ .int⟩
          · exact q.elim
        · exact q.elim
  · exact q.elim
def hList (as : List A) (S : Store) : Out A := match as with
  | [a] => (match lst? S a with
    | some ds => .ok (.val (.lst ds)) S
    | none => match tup? a with
      | some ds => .ok (.val (.lst ds)) S
      | none => .bad)
  | _ => .bad
theorem b_list : ∃ r, CallR X (.type "list") r ∧ RdC X.K cl W r hList := by
  refine ⟨_, call_list_of, fun σ Hv H S ad xs as Q so rs q => ?_⟩
  unfold hList at q
  split at q
  · rename_i a
    obtain ⟨v, rfl, r1⟩ := rep1 rs
    split at q
    · rename_i ds e
      obtain ⟨p, ys, rfl, h1, r2⟩ := lst_at so r1 e
      exact ⟨p, ys, rfl, .inl (.inl (.inl h1)), fun l hl => q.made so hl (.lst upd_same (r2.mono (Ex.new (so.ex.nn hl))))⟩
    · split at q
      · rename_i ds e
        obtain ⟨p, ys, rfl, h1, r2⟩ := tup_at so r1 e
        exact ⟨p, ys, rfl, .inr h1, fun l hl => q.made so hl (.lst upd_same (r2.mono (Ex.new (so.ex.nn hl))))⟩
      · exact q.elim
  · exact q.elim
def hTuple (as : List A) (S : Store) : Out A := match as with
  | [a] => (match lst? S a with
    | some ds => .ok (.val (.tup ds)) S
    | none => match tup? a with
      | some ds => .ok (.val (.tup ds)) S
      | none => .bad)
  | _ => .bad
theorem b_tuple : ∃ r, CallR X (.type "tuple") r ∧ RdC X.K cl W r hTuple := by
  refine ⟨_, call_tuple_of, fun σ Hv H S ad xs as Q so rs q => ?_⟩
  unfold hTuple at q
  split at q
  · rename_i a
    obtain ⟨v, rfl, r1⟩ := rep1 rs
    split at q
    · rename_i ds e
      obtain ⟨p, ys, rfl, h1, r2⟩ := lst_at so r1 e
      exact ⟨p, ys, rfl, .inl ⟨.inl (.inl h1), fun l hl => q.made so hl (.tup (.inl (.inl upd_same)) (r2.mono (Ex.new (so.ex.nn hl))))⟩⟩
    · split at q
      · rename_i ds e
        cases a with
        | loc n => cases e
        | val d =>
          cases d <;> first
            | (cases e; cases r1 with | tup h rs' => exact ⟨_, _, rfl, .inr ⟨ex_t so.ex h, q.here so _ (.tup h rs')⟩⟩)
            | cases e
      · exact q.elim
  · exact q.elim
def hIntC (as : List A) (S : Store) : Out A := match as with
  | [.val (.int i)] => .ok (.val (.int i)) S
  | [.val (.bl k)] => .ok (.val (.int (if k then 1 else 0))) S
  | _ => .bad
theorem b_int : ∃ r, CallR X (.type "int") r ∧ RdC X.K cl W r hIntC := by
  refine ⟨_, call_int1, fun σ Hv H S ad xs as Q so rs q => ?_⟩
  unfold hIntC at q
  split at q
  · obtain ⟨v, rfl, r1⟩ := rep1 rs
    cases r1
    exact .inl ⟨_, rfl, q.here so _ .int⟩
  · obtain ⟨v, rfl, r1⟩ := rep1 rs
    cases r1
    exact .inr ⟨_, rfl, q.here so _ .int⟩
  · exact q.elim
def hAbs (as : List A) (S : Store) : Out A := match as with
  | [.val (.int i)] => .ok (.val (.int (if i < 0 then -i else i))) S
  | _ => .bad
theorem b_abs : ∃ r, CallR X (.builtin "abs") r ∧ RdC X.K cl W r hAbs := by
  refine ⟨_, call_abs, fun σ Hv H S ad xs as Q so rs q => ?_⟩
  unfold hAbs at q
  split at q
  · obtain ⟨v, rfl, r1⟩ := rep1 rs
    cases r1
    exact ⟨_, rfl, q.here so _ .int⟩
  · exact q.elim
end
end R


namespace R
open PySem L2

/-! ### the head's facts, with one more Bool -/
abbrev AlR : Type := Bool × List He.FnW
def obsR (fa : List He.Fa) (fn : List He.DefD) (ex : PySem.W.Frag → Bool) (K : PySem.W.Frag) : AlR := ((fa.all fun f => f.ok K) && ((fn.all fun d => d.ok K) && ex K), fn.map fun d => He.fnW K d.at_)
def valR (fn : List He.DefD) : AlR := (true, fn.map He.DefD.val)
def SaysR (fa : List He.Fa) (fn : List He.DefD) (ex : PySem.W.Frag → Bool) (K : PySem.W.Frag) : Prop := obsR fa fn ex K = valR fn
def obsRG (n : Nat) (fa : List He.Fa) (fn : List He.DefD) (ex : PySem.W.Frag → Bool) (g : Addr → Option Obj) : Bool × AlR := ((match g sysModules with | some o => decide (o.cls ≠ .type "list") | none => false), obsR fa fn ex (He.frG g (He.asD g n)))
theorem sm_of {g : Addr → Option Obj} (h : (match g sysModules with | some o => decide (o.cls ≠ .type "list") | none => false) = true) : ∃ o, g sysModules = some o ∧ o.cls ≠ .type "list" := by
  split at h
  · rename_i o e
    exact ⟨o, e, of_decide_eq_true h⟩
  · cases h
def hookR (n : Nat) (fa : List He.Fa) (fn : List He.DefD) (ex : PySem.W.Frag → Bool) : PySem.W.Hook where
  α := Bool × AlR
  obs := fun s => obsRG n fa fn ex s.heap.get?
  val := fun _ => (true, valR fn)
  says := fun _ h => ∃ K : PySem.W.Frag, K.In h ∧ SaysR fa fn ex K ∧ ∃ o, h.get? sysModules = some o ∧ o.cls ≠ .type "list"
  of := fun _ _ e => ⟨_, He.frG_in, congrArg (fun z : Bool × AlR => z.2) e, sm_of (congrArg (fun z : Bool × AlR => z.1) e)⟩
  keeps := fun _ _ _ ⟨K, hK, c, o, ho, hl⟩ k => ⟨K, PySem.W.Frag.In.keeps hK k, c, o, k _ _ ho, hl⟩
theorem obsRG_eq {n : Nat} {fa : List He.Fa} {fn : List He.DefD} {ex : PySem.W.Frag → Bool} {g : Addr → Option Obj} {s : Shared} (h : ∀ a, g a = s.heap.get? a) : obsRG n fa fn ex g = (hookR n fa fn ex).obs s := by
  have e : g = s.heap.get? := funext h
  rw [e] <;> rfl
section
variable {fa : List He.Fa} {fn : List He.DefD} {ex : PySem.W.Frag → Bool} {K : PySem.W.Frag}
theorem SaysR.fact (c : SaysR fa fn ex K) (i : Nat) {f : He.Fa} (h : fa[i]? = some f := by rfl) : f.ok K = true := by
  have c1 := (He.ba (show ((fa.all fun f => f.ok K) && ((fn.all fun d => d.ok K) && ex K)) = true from congrArg (fun z : AlR => z.1) c)).1
  exact List.all_eq_true.mp c1 f (List.mem_of_getElem? h)
theorem SaysR.more (c : SaysR fa fn ex K) : ex K = true :=
  (He.ba (He.ba (show ((fa.all fun f => f.ok K) && ((fn.all fun d => d.ok K) && ex K)) = true from congrArg (fun z : AlR => z.1) c)).2).2
theorem SaysR.def_ (c : SaysR fa fn ex K) (i : Nat) {d : He.DefD} (h : fn[i]? = some d := by rfl) : ∃ fd, FunD K d.name d.qual d.params d.body d.scope (d.dvs K) (d.kws K) (He.fAd K d.at_) fd := by
  have c2 := (He.ba (He.ba (show ((fa.all fun f => f.ok K) && ((fn.all fun d => d.ok K) && ex K)) = true from congrArg (fun z : AlR => z.1) c)).2).1
  have e : fn.map (fun d => He.fnW K d.at_) = fn.map He.DefD.val := congrArg (fun z : AlR => z.2) c
  have e2 : (fn.map fun d => He.fnW K d.at_)[i]? = (fn.map He.DefD.val)[i]? := by rw [e]
  rw [List.getElem?_map, List.getElem?_map, h] at e2
  exact He.DefD.funD (Option.some.inj e2) (List.all_eq_true.mp c2 d (List.mem_of_getElem? h))
end
/-- what the text's top has left -/
structure Tx (fa : List He.Fa) (fn : List He.DefD) (ex : PySem.W.Frag → Bool) (K : PySem.W.Frag) (mg : Str → Option Value) : Prop where
  h : ∃ h : Heap, K.In h ∧ h.Ns mainGlobals mg
  c : SaysR fa fn ex K
section
variable {fa : List He.Fa} {fn : List He.DefD} {ex : PySem.W.Frag → Bool} {K : PySem.W.Frag} {mg : Str → Option Value}
theorem Tx.glo (T : Tx fa fn ex K mg) (i : Nat) {x : Str} (h : fa[i]? = some (.glo x) := by rfl) : mg x = some (.ref (He.ga K x)) := let ⟨_, X, G⟩ := T.h; He.glo_ok X G (T.c.fact i h)
theorem Tx.free (T : Tx fa fn ex K mg) (i : Nat) {x : Str} (h : fa[i]? = some (.free x) := by rfl) : mg x = none := let ⟨_, X, G⟩ := T.h; He.free_ok X G (T.c.fact i h)
theorem Tx.int (T : Tx fa fn ex K mg) (i : Nat) {x : Str} {n : Int} (h : fa[i]? = some (.int x n) := by rfl) : ∃ t, mg x = some (.int n t) := let ⟨_, X, G⟩ := T.h; He.int_ok X G (T.c.fact i h)
theorem Tx.str (T : Tx fa fn ex K mg) (i : Nat) {x z : Str} (h : fa[i]? = some (.str x z) := by rfl) : ∃ t, mg x = some (.str z t) := let ⟨_, X, G⟩ := T.h; He.str_ok X G (T.c.fact i h)
end

/-- a def of the module keeps what g says -/
structure FnR (P : Program) (w : World) (K : PySem.W.Frag) (mg : Str → Option Value) (base : Heap) (cl : Nat → Addr) (k : Nat) (f : Addr) (ps : List Str) (g : List A → Store → Out A) : Prop where
  ex : ∃ fd, Binds K fd ps [] ∧ PySem.W.keepIn K (.ref f) = true ∧ FnG P w K mg base k f fd ps (SpF K cl ps.length g)
section
variable {P : Program} {w : World} {K : PySem.W.Frag} {mg : Str → Option Value} {base : Heap} {cl : Nat → Addr}
theorem fnR_mk {x qual : Str} {params : Arguments} {body : List Stmt} {scope : Scope} {f : Addr} {N ps : List Str} {k : Nat} {fb : Sv} (F : ∃ fd, FunD K x qual params body scope [] [] f fd) (S : FnScope N ps scope)
    (hbn : ∀ (kV doc pm : Value) (an : Option Addr) (cdv ct : Value) (us : List Value), us.length = ps.length → bindArgs (PySem.W.fnOf x qual params body scope .none kV doc pm an cdv ct) ⟨us, []⟩ = pure (ps.zip us))
    (hb : ∀ (cdv : Value) (A : Around) (outer : List PySem.Env) (s : Shared) (H : Hp) (E : XK), Room k (A.deeper (PyProof.Rows.envOfC qual scope s.heap.objs.size f cdv)) → Bx (cxOf (L2.CX P w) P w K mg base N qual scope f cdv A outer s H E) (fun c d _ H' => E c d H') →
      SSs (cxOf (L2.CX P w) P w K mg base N qual scope f cdv A outer s H E) cl (fun c d _ H' => E c d H') body fb) : FnR P w K mg base cl (k + 1) f ps (defF N.length fb) :=
  let ⟨fd, F⟩ := F
  ⟨fd, F.bindsN hbn, F.kp, fn_def F S hb⟩
theorem FnR.mono {k k' : Nat} {f : Addr} {ps : List Str} {g : List A → Store → Out A} (h : FnR P w K mg base cl k f ps g) (hk : k ≤ k') : FnR P w K mg base cl k' f ps g := let ⟨fd, a, b, c⟩ := h.ex; ⟨fd, a, b, c.mono hk⟩
end
section
variable {X : Cx} {cl : Nat → Addr} {W : WX} {k : Nat} {f : Addr} {ps : List Str} {g : List A → Store → Out A} {x : Str} {p pos : Pos} {e : Expr} {es : List Expr}
/-- f(e, ..) -/
theorem se_fn {fa : Ev (List A)} {n : Nat} (F : FnR X.prog X.w X.K X.mg X.base cl k f ps g) (B : Bx X W) (hr : Room k X.A) (hm : X.mg x = some (.ref f)) (ha : SA X cl W (e :: es) fa) (hn : ps.length = n := by rfl) (hg : Gl X x := by rfl) (hdb : (x == ("__debug__" : Str)) = false := by decide)
    (he : starEach (e :: es) X.env = (false, eval e X.env) :: starEach es X.env := by rfl) (hpl : (backTo pos (starEach es X.env)).any (·.1) = false := by rfl) :
    SE X cl W (.Call (.Name x p) (e :: es) [] pos) (eApp (callG n g []) fa) := by
  obtain ⟨fd, hb, hk, F⟩ := F.ex
  subst hn
  exact se_call F B hr hm hk hb .nil (fun _ _ => .nil) ha hg hdb he hpl
theorem se_fn0 {n : Nat} (F : FnR X.prog X.w X.K X.mg X.base cl k f ps g) (B : Bx X W) (hr : Room k X.A) (hm : X.mg x = some (.ref f)) (hn : ps.length = n := by rfl) (hg : Gl X x := by rfl) (hdb : (x == ("__debug__" : Str)) = false := by decide) :
    SE X cl W (.Call (.Name x p) [] [] pos) (eApp (callG n g []) eNil) := by
  obtain ⟨fd, hb, hk, F⟩ := F.ex
  subst hn
  exact se_call0 F B hr hm hk hb .nil (fun _ _ => .nil) hg hdb
/-- a module's number, text -/
theorem se_gint {n : Int} (h : ∃ t, X.mg x = some (.int n t)) (hg : Gl X x := by rfl) (hd : (x == ("__debug__" : Str)) = false := by decide) : SE X cl W (.Name x pos) (eC (.int n)) := let ⟨t, h⟩ := h; ⟨_, pe_glob (v := .int n) hg h ⟨t, rfl⟩ hd, rd_c fun _ => .int⟩
theorem se_gstr {z : Str} (h : ∃ t, X.mg x = some (.str z t)) (hg : Gl X x := by rfl) (hd : (x == ("__debug__" : Str)) = false := by decide) : SE X cl W (.Name x pos) (eC (.str z)) := let ⟨t, h⟩ := h; ⟨_, pe_glob (v := .str z) hg h ⟨t, rfl⟩ hd, rd_c fun _ => .str⟩
/-- a block's context: nothing is let out -/
theorem bx_blk {s : Shared} {H : Hp} {scope : Scope} {cenv : PySem.Env} {fp : List Addr} (B : Bx X W) : Bx (X.blk s H scope cenv fp) WF := ⟨takes0, PassesOwn.never, fun _ _ _ _ _ z => z, B.gd⟩
end
end R


namespace R
open PySem L2

/-! ### an own exception class: the facts as one Bool -/
def oexB (K : PySem.W.Frag) (C : Addr) : Bool := (match K.lookup C with
  | some ⟨.type "type", _, .cls cd, sl⟩ => (match cd.mro, sl.toList with
    | .ref C' :: bm, [_, _, _, _, some (.builtin n), _] => C' == C && (n == "ValueError.__new__" && (!cd.hasDel && (cd.hasDict && PySem.HandSPX.refsVE bm)))
    | _, _ => false)
  | _ => false) &&
  (decide (PySem.W.findIn K (.ref C) "__setattr__" = some (some (.builtin "object.__setattr__"))) && (decide (PySem.W.subIn K (.ref C) (.type "BaseException") = some true) && (decide (PySem.W.typeIn K (.ref C) = some (.type "type")) && PySem.W.keepIn K (.ref C))))
theorem oexB_ok {K : PySem.W.Frag} {C : Addr} (h : oexB K C = true) : OexC K C := by
  unfold oexB at h
  obtain ⟨h1, h⟩ := Bool.and_eq_true_iff.mp h
  obtain ⟨h2, h⟩ := Bool.and_eq_true_iff.mp h
  obtain ⟨h3, h⟩ := Bool.and_eq_true_iff.mp h
  obtain ⟨h4, h5⟩ := Bool.and_eq_true_iff.mp h
  refine ⟨?_, of_decide_eq_true h2, of_decide_eq_true h3, of_decide_eq_true h4, h5⟩
  split at h1
  · rename_i dd cd sl ho
    split at h1
    · rename_i C' bm k0 k1 k2 k3 n k5 hm hs
      simp only [Bool.and_eq_true, beq_iff_eq, Bool.not_eq_true'] at h1
      obtain ⟨rfl, rfl, hdel, hdct, ht⟩ := h1
      obtain ⟨nm, bs, mro, ns, qn, hd, sn, sub, ab, col, del⟩ := cd
      dsimp only at hm hdel hdct
      subst hm hdel hdct
      have hsl : sl = #[k0, k1, k2, k3, some (.builtin "ValueError.__new__"), k5] := by
        obtain ⟨l⟩ := sl
        simp only at hs
        rw [hs]
      subst hsl
      exact ⟨nm, qn, ns, bs, bm, sn, sub, ab, col, dd, k0, k1, k2, k3, k5, ho, ht⟩
    · cases h1
  · cases h1
/-- how isinstance and attributes see it -/
structure ExcK (K : PySem.W.Frag) (D : Addr) : Prop where
  cl : (PySem.W.clsIn K D).isSome = true
  hg : PySem.W.findIn K (.ref D) "__getattribute__" = some (some (.builtin "BaseException.__getattribute__"))
  hk : PySem.W.findIn K (.ref D) "__getattr__" = some none
  hs : PySem.W.subIn K (.ref D) (.type "BaseException") = some true
  hd : PySem.W.hasDictIn K D = true
  ha : PySem.W.findIn K (.ref D) "__class__" = some (some (.builtin "object.__class__"))
  hn : PySem.W.specialIn K (.builtin "object.__class__") "__get__" = some (some (.builtin "getset_descriptor.__get__"))
  ht : PySem.W.takesIn K (.builtin "object.__class__") = some true
  hm : PySem.W.mroIn K D (.type "object") = some true
def excKB (K : PySem.W.Frag) (D : Addr) : Bool := (PySem.W.clsIn K D).isSome && (decide (PySem.W.findIn K (.ref D) "__getattribute__" = some (some (.builtin "BaseException.__getattribute__"))) && (decide (PySem.W.findIn K (.ref D) "__getattr__" = some none) && (decide (PySem.W.subIn K (.ref D) (.type "BaseException") = some true) && (PySem.W.hasDictIn K D &&
  (decide (PySem.W.findIn K (.ref D) "__class__" = some (some (.builtin "object.__class__"))) && (decide (PySem.W.specialIn K (.builtin "object.__class__") "__get__" = some (some (.builtin "getset_descriptor.__get__"))) && (decide (PySem.W.takesIn K (.builtin "object.__class__") = some true) && decide (PySem.W.mroIn K D (.type "object") = some true))))))))
theorem excKB_ok {K : PySem.W.Frag} {D : Addr} (h : excKB K D = true) : ExcK K D := by
  unfold excKB at h
  obtain ⟨h1, h⟩ := Bool.and_eq_true_iff.mp h
  obtain ⟨h2, h⟩ := Bool.and_eq_true_iff.mp h
  obtain ⟨h3, h⟩ := Bool.and_eq_true_iff.mp h
  obtain ⟨h4, h⟩ := Bool.and_eq_true_iff.mp h
  obtain ⟨h5, h⟩ := Bool.and_eq_true_iff.mp h
  obtain ⟨h6, h⟩ := Bool.and_eq_true_iff.mp h
  obtain ⟨h7, h⟩ := Bool.and_eq_true_iff.mp h
  obtain ⟨h8, h9⟩ := Bool.and_eq_true_iff.mp h
  exact ⟨h1, of_decide_eq_true h2, of_decide_eq_true h3, of_decide_eq_true h4, h5, of_decide_eq_true h6, of_decide_eq_true h7, of_decide_eq_true h8, of_decide_eq_true h9⟩

/-! ### C(e, ..) as a value -/
def tOexV (C : Addr) (sp : Sp) (ta : TA) : TE := fun σ H Q => ta σ H fun vs H1 => vs.length ≤ 1000 ∧ ∀ a, H1 a = none → sp (.ref a :: vs) (upd H1 a (exo a C none)) (fun v H2 => v = .non ∧ Q (.ref a) H2) (fun _ _ _ => False)
section
variable {X : Cx} {e : Expr} {es : List Expr} {kws : List Keyword} {ta tk : TA} {p pos : Pos} {x : Str} {C fI : Addr} {k : Nat} {fd : FuncData} {ps : List Str} {sp : Sp} {W : WX}
theorem run_oexV {pins : List (Addr × Obj)} {σ : St} {H1 : Hp} {s1 : Shared} {Q : VK} {us : List Value} {vs : List V} (T : OexC X.K C) (iC : PySem.W.findIn X.K (.ref C) "__init__" = some (some (.ref fI))) (tI : PySem.W.typeIn X.K (.ref fI) = some (.type "function"))
    (F1 : FnOk X.prog X.w X.K X.mg X.base (L2.CX X.prog X.w) k fI fd ps sp) (hr : Room (k + 1) X.A) (hb : Binds X.K fd ps []) (I1 : Inv X pins σ H1 s1) (r1 : Vals vs us) (hz : vs.length ≤ 1000)
    (q1 : ∀ a, H1 a = none → sp (.ref a :: vs) (upd H1 a (exo a C none)) (fun v H2 => v = .non ∧ Q (.ref a) H2) (fun _ _ _ => False)) : wpAny (model X.prog X.w) X.A (call (.ref C) us) (EP X pins σ Q) X.xe s1 := by
  obtain ⟨nm, q, N, bs, bm, sn, sub, ab, col, dd, k0, k1, k2, k3, k5, hC, hbm⟩ := T.cls
  obtain ⟨hp, g, dr, tk, os⟩ := s1
  have hsz : hp.objs.size ≤ hp.objs.size + 1 := Nat.le_succ _
  have hn : H1 (hp.objs.size + 1) = none := I1.hok.fresh hsz
  have hq := q1 (hp.objs.size + 1) hn
  have kk : ∀ b o, hp.get? b = some o → ((hp.push (PySem.W.kdv_tup us)).push (PySem.HandSPX.excO C hp.objs.size)).get? b = some o := fun b o e => Heap.get?_push_of_some _ (Heap.get?_push_of_some _ e)
  have hget : ((hp.push (PySem.W.kdv_tup us)).push (PySem.HandSPX.excO C hp.objs.size)).get? (hp.objs.size + 1) = some (PySem.HandSPX.excO C hp.objs.size) := by heap_get
  have I2 : Inv X pins σ (upd H1 (hp.objs.size + 1) (exo (hp.objs.size + 1) C none)) ⟨(hp.push (PySem.W.kdv_tup us)).push (PySem.HandSPX.excO C hp.objs.size), g, dr, tk, os⟩ :=
    I1.laid (t' := tk) (a := hp.objs.size + 1) (o := exo (hp.objs.size + 1) C none) (h' := (hp.push (PySem.W.kdv_tup us)).push (PySem.HandSPX.excO C hp.objs.size)) kk hsz (exo_ok hget)
  have r2 : Vals (V.ref (hp.objs.size + 1) :: vs) (Value.ref (hp.objs.size + 1) :: us) := .cons rfl r1
  have hl : (Value.ref (hp.objs.size + 1) :: us ++ []).length = ps.length := by
    have e := r2.length
    rw [F1.len _ _ _ _ hq] at e
    rw [List.append_nil]
    exact e.symm
  have hus : us.length ≤ sizeLine := by
    rw [← Paired.length r1, sizeLine_eq]
    omega
  have hbb := hb ⟨(hp.push (PySem.W.kdv_tup us)).push (PySem.HandSPX.excO C hp.objs.size), g, dr, tk, os⟩ (Value.ref (hp.objs.size + 1) :: us) I2.kIn hl
  rw [List.append_nil] at hbb
  refine wpAny_call (PySem.HandSPX.call_own F.excBase_ValueError (fun Y => PySem.HandSPX.refsVE_contains Y bm hbm) (I1.kIn _ _ hC) (PySem.W.looks_findIn I1.kIn iC) (fun self => PySem.W.bind_fn I1.kIn self tI) hus
    (codeAny_mono (F1.run _ X.stack _ _ ⟨Value.ref (hp.objs.size + 1) :: us, []⟩ (Value.ref (hp.objs.size + 1) :: us) _ _ (fun _ _ _ => False) (hr.make C us []) (I2.env0.make C us []) hbb r2 hq) fun r s' hq' => ?_))
  cases r with
  | error er => exact (passL (X := X) pins σ _ _ er s' I2 hq')
  | ok fl =>
    cases fl with
    | ret u =>
      obtain ⟨v, H2, J, rv, ev, q2⟩ := I2.after hq'
      subst ev
      exact ⟨rv, ⟨.ref (hp.objs.size + 1), H2, J, rfl, q2⟩⟩
    | next => exact False.elim hq'
    | brk => exact False.elim hq'
    | cont => exact False.elim hq'
theorem pe_oexV (T : OexC X.K C) (iC : PySem.W.findIn X.K (.ref C) "__init__" = some (some (.ref fI))) (tI : PySem.W.typeIn X.K (.ref fI) = some (.type "function"))
    (F1 : FnOk X.prog X.w X.K X.mg X.base (L2.CX X.prog X.w) k fI fd ps sp) (hr : Room (k + 1) X.A) (hb : Binds X.K fd ps []) (hg : Gl X x) (hm : X.mg x = some (.ref C)) (ha : PA X (e :: es) ta)
    (hdb : (x == ("__debug__" : Str)) = false := by decide) (he : starEach (e :: es) X.env = (false, eval e X.env) :: starEach es X.env := by rfl) (hpl : (backTo pos (starEach es X.env)).any (·.1) = false := by rfl) :
    PE X (.Call (.Name x p) (e :: es) [] pos) (tOexV C sp ta) := by
  refine ⟨fun pins s σ H Q I h => ?_⟩
  refine wpAny_Call_Name_kw (ld_glob I hg hm ?_ hdb)
  refine PySem.W.callWith_K (h₀ := X.base) I.ok.mod.kin T.kC (thn (ha.run pos pins s σ H _ I h) fun us s1 ⟨vs, H1, I1, r1, hz, q1⟩ => ⟨I1.kIn, ?_⟩) he hpl
  exact run_oexV T iC tI F1 hr hb I1 r1 hz q1
end

/-! ### what __init__ does: each field is stored -/
/-- newest first, as the layer keeps them -/
def exFs : List Str → List V → List (Str × V)
  | f :: fs, v :: vs => exFs fs vs ++ [(f, v)]
  | _, _ => []
def spX (C : Addr) (ns : List Str) : Sp := fun xs H Q _ => ∃ a vs, xs = .ref a :: vs ∧ vs.length = ns.length ∧ H a = some (exo a C none) ∧ ∀ dx, H dx = none → dx ≠ a → Q .non (upd (upd H dx (exd dx (exFs ns vs))) a (exo a C (some dx)))

section
variable {P : Program} {w : World} {K : PySem.W.Frag} {mg : Str → Option Value} {base : Heap} {qual : Str} {params : Arguments} {body : List Stmt} {scope : Scope} {C fI : Addr} {fd : FuncData}
theorem okX1 {f x : Str} (F : FunD K "__init__" qual params body scope [] [] fI fd) (S : FnScope ["self", x] ["self", x] scope) (T : OexC K C) (hno : PySem.W.findIn K (.ref C) f = some none)
    (hp : ∀ (cdv : Value) (A : Around) (outer : List PySem.Env) (s : Shared) (H : Hp) (E : XK), PSs (cxOf (L2.CX P w) P w K mg base ["self", x] qual scope fI cdv A outer s H E) body (tOst K f (tVar 0) (tVar 1))) :
    FnOk P w K mg base (L2.CX P w) 1 fI fd ["self", x] (spX C [f]) := by
  refine F.ok (k := 0) S (fun vs H Q E h => ?_) fun cdv A outer s H vs Q E hr h => ⟨_, hp cdv A outer s H E, ?_⟩
  · obtain ⟨a, vs, rfl, hl, _⟩ := h
    simp at hl ⊢
    exact hl
  · obtain ⟨a, vs, rfl, hl, ha, q⟩ := h
    match vs, hl with
    | [v], _ => exact ⟨v, rfl, .ref a, rfl, a, C, rfl, T, hno, .inl ⟨ha, fun dx h1 h2 => q dx h1 h2⟩⟩
theorem okX2 {f g x y : Str} (F : FunD K "__init__" qual params body scope [] [] fI fd) (S : FnScope ["self", x, y] ["self", x, y] scope) (T : OexC K C) (hf : PySem.W.findIn K (.ref C) f = some none) (hg : PySem.W.findIn K (.ref C) g = some none)
    (hp : ∀ (cdv : Value) (A : Around) (outer : List PySem.Env) (s : Shared) (H : Hp) (E : XK), PSs (cxOf (L2.CX P w) P w K mg base ["self", x, y] qual scope fI cdv A outer s H E) body (tSeq (tOst K f (tVar 0) (tVar 1)) (tOst K g (tVar 0) (tVar 2)))) :
    FnOk P w K mg base (L2.CX P w) 1 fI fd ["self", x, y] (spX C [f, g]) := by
  refine F.ok (k := 0) S (fun vs H Q E h => ?_) fun cdv A outer s H vs Q E hr h => ⟨_, hp cdv A outer s H E, ?_⟩
  · obtain ⟨a, vs, rfl, hl, _⟩ := h
    simp at hl ⊢
    exact hl
  · obtain ⟨a, vs, rfl, hl, ha, q⟩ := h
    match vs, hl with
    | [v, u], _ =>
      refine ⟨v, rfl, .ref a, rfl, a, C, rfl, T, hf, .inl ⟨ha, fun dx h1 h2 => ?_⟩⟩
      refine ⟨u, rfl, .ref a, rfl, a, C, rfl, T, hg, .inr ⟨dx, [(f, v)], upd_same, by rw [upd_ne h2, upd_same], (by show 1 ≤ 900; decide), ?_⟩⟩
      have e : upd (upd (upd H dx (exd dx [(f, v)])) a (exo a C (some dx))) dx (exd dx ((g, u) :: [(f, v)])) = upd (upd H dx (exd dx (exFs [f, g] [v, u]))) a (exo a C (some dx)) := by
        funext b
        by_cases hb : b = dx
        · subst hb
          rw [upd_same, upd_ne h2, upd_same]
          rfl
        · rw [upd_ne hb]
          by_cases hba : b = a
          · subst hba
            rw [upd_same, upd_same]
          · rw [upd_ne hba, upd_ne hba, upd_ne hb, upd_ne hb]
      have q2 := q dx h1 h2
      rw [← e] at q2
      exact q2
end
/-- the entries named, in that order -/
def permL {α : Type} (p : List Nat) (l : List α) : List α := p.filterMap (l[·]?)
/-- how keywords fill the parameters behind self -/
def KwB (fd : FuncData) (ps : List Str) (b : List Str × List Nat) : Prop := ∀ (s : Shared) (self : Value) (ws : List Value), ws.length = b.1.length → BindsTo s fd ⟨[self], b.1.zip ws⟩ (ps.zip (self :: permL b.2 ws))
/-- an own exception class with fields -/
structure ExR (P : Program) (w : World) (K : PySem.W.Frag) (mg : Str → Option Value) (base : Heap) (C : Addr) (ns : List Str) (kbs : List (List Str × List Nat)) : Prop where
  ex : ∃ fI fd ps, OexC K C ∧ PySem.W.findIn K (.ref C) "__init__" = some (some (.ref fI)) ∧ PySem.W.typeIn K (.ref fI) = some (.type "function") ∧ Binds K fd ps [] ∧ ps.length = ns.length + 1 ∧ FnOk P w K mg base (L2.CX P w) 1 fI fd ps (spX C ns) ∧ ∀ b ∈ kbs, KwB fd ps b
  nd : ns.Nodup
  few : ns.length ≤ 900
theorem FunD.kwB {K : PySem.W.Frag} {x qual : Str} {params : Arguments} {body : List Stmt} {scope : Scope} {kws : List (Str × V)} {f : Addr} {fd : FuncData} {ps : List Str} {b : List Str × List Nat} (F : FunD K x qual params body scope [] kws f fd)
    (h : ∀ (kV doc pm : Value) (an : Option Addr) (cdv ct : Value) (self : Value) (ws : List Value), ws.length = b.1.length → bindArgs (PySem.W.fnOf x qual params body scope .none kV doc pm an cdv ct) ⟨[self], b.1.zip ws⟩ = pure (ps.zip (self :: permL b.2 ws))) : KwB fd ps b := fun s self ws hl => by
  obtain ⟨oc, od, dV, kV, doc, pm, an, cdv, ct, osl, rfl, lk, hcd, hD, hK⟩ := F.ex
  rcases hD with ⟨_, rfl⟩ | ⟨e, _⟩
  · exact .of_eq (h kV doc pm an cdv ct self ws hl)
  · exact absurd rfl e
def hMkX (c : Nat) (ns : List Str) (as : List A) (S : Store) : Out A := match vals? as with
  | some ds => if ds.length = ns.length then .ok (.val (.exc c ns ds)) S else .bad
  | none => .bad
theorem exFs_lookup : ∀ {ns : List Str} {vs : List V}, ns.Nodup → vs.length = ns.length → flds (exFs ns vs) ns = vs ∧ HasF (exFs ns vs) ns := by
  have key : ∀ (ns : List Str) (vs : List V), ns.Nodup → vs.length = ns.length → ∀ (i : Nat) (n : Str) (v : V), ns[i]? = some n → vs[i]? = some v → (exFs ns vs).lookup n = some v := by
    intro ns
    induction ns with
    | nil => intro vs _ _ i n v h; simp at h
    | cons m ns ih =>
      intro vs hd hl i n v h1 h2
      cases vs with
      | nil => simp at h2
      | cons u vs =>
        have hdm := List.nodup_cons.mp hd
        have out : ∀ (ks : List Str) (ws : List V), m ∉ ks → (exFs ks ws).lookup m = none := fun ks => by
          induction ks with
          | nil => intro ws _; cases ws <;> rfl
          | cons k ks ihk =>
            intro ws hk
            cases ws with
            | nil => rfl
            | cons w ws =>
              show (exFs ks ws ++ [(k, w)]).lookup m = none
              rw [List.lookup_append, ihk ws (fun z => hk (List.mem_cons_of_mem _ z))]
              have hmk : (m == k) = false := beq_eq_false_iff_ne.mpr fun z => hk (by rw [z]; exact List.mem_cons_self)
              simp [List.lookup, hmk]
        show (exFs ns vs ++ [(m, u)]).lookup n = some v
        rw [List.lookup_append]
        cases i with
        | zero =>
          simp at h1 h2
          subst h1 h2
          rw [out ns vs hdm.1]
          simp [List.lookup]
        | succ i =>
          rw [ih vs hdm.2 (by simpa using hl) i n v (by simpa using h1) (by simpa using h2)]
          rfl
  intro ns vs hd hl
  constructor
  · unfold flds
    apply List.ext_getElem?
    intro i
    rw [List.getElem?_map]
    cases q : ns[i]? with
    | none =>
      have := List.getElem?_eq_none_iff.mp q
      rw [List.getElem?_eq_none (by omega)]
      rfl
    | some n =>
      have hi := (List.getElem?_eq_some_iff.mp q).1
      obtain ⟨v, hv⟩ : ∃ v, vs[i]? = some v := ⟨vs[i], List.getElem?_eq_getElem (by omega)⟩
      rw [hv, Option.map_some, key ns vs hd hl i n v q hv]
      rfl
  · intro n hn
    obtain ⟨i, hi⟩ := List.getElem?_of_mem hn
    have hl2 := (List.getElem?_eq_some_iff.mp hi).1
    obtain ⟨v, hv⟩ : ∃ v, vs[i]? = some v := ⟨vs[i], List.getElem?_eq_getElem (by omega)⟩
    exact ⟨v, key ns vs hd hl i n v hi hv⟩
theorem exo_is {a C : Addr} {d : Option Addr} : ∃ φ, exo a C d = .ext φ ∧ IsExc φ a C d := ⟨_, rfl, fun h ⟨t, e⟩ => ⟨_, _, e, ⟨rfl, rfl⟩, rfl⟩⟩
section
variable {X : Cx} {cl : Nat → Addr} {W : WX} {e : Expr} {es : List Expr} {p pos : Pos} {x : Str} {c : Nat} {ns : List Str} {kbs : List (List Str × List Nat)} {f : Ev (List A)}
/-- behind C(e, ..): what stands there -/
theorem mkx_end {σ : St} {Hv H : Hp} {S : Store} {ad : List Addr} {vs : List V} {ds : List D} {Q : VK} {a dx : Addr} (so : StOk X.K cl Hv H S ad) (rs : Reps X.K cl Hv vs ds) (hl : ds.length = ns.length) (nd : ns.Nodup) (h1 : H a = none) (h2 : upd H a (exo a (cl c) none) dx = none) (h3 : dx ≠ a)
    (q : Pst X.K cl W σ Hv ad (RA X.K cl Q) (.ok (.val (.exc c ns ds)) S)) : Q (.ref a) (upd (upd (upd H a (exo a (cl c) none)) dx (exd dx (exFs ns vs))) a (exo a (cl c) (some dx))) := by
  have hdx : H dx = none := by
    rw [upd_ne h3] at h2
    exact h2
  have e : upd (upd (upd H a (exo a (cl c) none)) dx (exd dx (exFs ns vs))) a (exo a (cl c) (some dx)) = upd (upd H dx (exd dx (exFs ns vs))) a (exo a (cl c) (some dx)) := by
    funext b
    by_cases hb : b = a
    · subst hb
      rw [upd_same, upd_same]
    · rw [upd_ne hb, upd_ne hb]
      by_cases hb2 : b = dx
      · subst hb2
        rw [upd_same, upd_same]
      · rw [upd_ne hb2, upd_ne hb2, upd_ne hb]
  rw [e]
  have s1 := so.new (o := exd dx (exFs ns vs)) hdx
  have ha1 : upd H dx (exd dx (exFs ns vs)) a = none := by rw [upd_ne (Ne.symm h3)]; exact h1
  have s2 := s1.new (o := exo a (cl c) (some dx)) ha1
  have ex1 : Ex Hv (upd (upd Hv dx (exd dx (exFs ns vs))) a (exo a (cl c) (some dx))) := (Ex.new (so.ex.nn hdx)).trans (Ex.new (s1.ex.nn ha1))
  refine q _ ad _ ex1 (Pre.refl _) s2 (.ref a) ?_
  obtain ⟨φ, ep, ip⟩ := @exo_is a (cl c) (some dx)
  obtain ⟨g1, g2⟩ := exFs_lookup (vs := vs) nd (by rw [rs.length]; exact hl)
  refine .exc (φ := φ) (dx := dx) (o := exd dx (exFs ns vs)) (fs := exFs ns vs) (by rw [upd_same, ep]) ip (by rw [upd_ne h3, upd_same]) (.inr rfl) g2 ?_
  rw [g1]
  exact rs.mono ex1
theorem se_mkx (F : ExR X.prog X.w X.K X.mg X.base (cl c) ns kbs) (hr : Room 2 X.A) (hm : X.mg x = some (.ref (cl c))) (ha : SA X cl W (e :: es) f) (hg : Gl X x := by rfl)
    (hdb : (x == ("__debug__" : Str)) = false := by decide) (he : starEach (e :: es) X.env = (false, eval e X.env) :: starEach es X.env := by rfl) (hpl : (backTo pos (starEach es X.env)).any (·.1) = false := by rfl) :
    SE X cl W (.Call (.Name x p) (e :: es) [] pos) (eApp (hMkX c ns) f) := by
  obtain ⟨fI, fd, ps, T, iC, tI, hb, hps, F1, _⟩ := F.ex
  obtain ⟨_, pa, ra⟩ := ha.ex
  refine ⟨_, pe_oexV T iC tI F1 hr hb hg hm pa hdb he hpl, fun σ Hv H S ad env Q re so q => ?_⟩
  refine ra σ Hv H S ad env _ re so (q.bind.mono fun as S1 Hv1 ad1 H1 e1 p1 s1 q1 vs r1 => ?_)
  unfold hMkX at q1
  split at q1
  · rename_i ds ed
    have rs := vals_rep r1 ed
    split at q1
    · rename_i hl
      refine ⟨by rw [rs.length, hl]; exact Nat.le_trans F.few (by decide), fun a h1 => ⟨a, vs, rfl, by rw [rs.length]; exact hl, upd_same, fun dx h2 h3 => ⟨rfl, mkx_end s1 rs hl F.nd h1 h2 h3 q1⟩⟩⟩
    · exact q1.elim
  · exact q1.elim
end
end R


namespace R
open PySem L2

/-! ### classes: what the text says of them, by numbers -/
inductive Tag where
  | b (s : String) | o (n : Nat)
  deriving DecidableEq
structure CtT where
  n : Nat
  mro : Nat → List Tag
  exc : Nat → Bool
  fld : Nat → List Str
def baseTys : List String := ["NoneType", "bool", "int", "str", "list", "tuple", "dict"]
def tgtTys : List String := ["str", "int", "bool", "list", "tuple", "dict", "ValueError"]
structure ObK (K : PySem.W.Frag) (C : Addr) : Prop where
  cl : Cls K C
  ha : PySem.W.findIn K (.ref C) "__class__" = some (some (.builtin "object.__class__"))
  hn : PySem.W.specialIn K (.builtin "object.__class__") "__get__" = some (some (.builtin "getset_descriptor.__get__"))
  ht : PySem.W.takesIn K (.builtin "object.__class__") = some true
  hm : PySem.W.mroIn K C (.type "object") = some true
structure CtOk (t : CtT) (K : PySem.W.Frag) (cl : Nat → Addr) : Prop where
  own : ∀ c, c < t.n → ∀ c', c' < t.n → PySem.W.kitOne K (.ref (cl c)) (.ref (cl c')) = some (decide (Tag.o c' ∈ t.mro c))
  bown : ∀ a ∈ baseTys, ∀ c, c < t.n → PySem.W.kitOne K (.type a) (.ref (cl c)) = some false
  ob : ∀ c, c < t.n → ∀ b ∈ tgtTys, PySem.W.kitOne K (.ref (cl c)) (.type b) = some (decide (Tag.b b ∈ t.mro c))
  exk : ∀ c, c < t.n → t.exc c = true → ExcK K (cl c)
  obk : ∀ c, c < t.n → t.exc c = false → ObK K (cl c)
  noat : ∀ c, c < t.n → ∀ f ∈ t.fld c, PySem.W.findIn K (.ref (cl c)) f = some none
def obKB (K : PySem.W.Frag) (C : Addr) : Bool := (PySem.W.plainGet K C Str.empty && (PySem.W.hasDictIn K C && (PySem.W.plainOver K C && decide (PySem.W.findIn K (.ref C) "__setattr__" = some (some (.builtin "object.__setattr__")))))) &&
  (decide (PySem.W.findIn K (.ref C) "__class__" = some (some (.builtin "object.__class__"))) && (decide (PySem.W.specialIn K (.builtin "object.__class__") "__get__" = some (some (.builtin "getset_descriptor.__get__"))) && (decide (PySem.W.takesIn K (.builtin "object.__class__") = some true) && decide (PySem.W.mroIn K C (.type "object") = some true))))
theorem obKB_ok {K : PySem.W.Frag} {C : Addr} (h : obKB K C = true) : ObK K C := by
  unfold obKB at h
  obtain ⟨h0, h⟩ := Bool.and_eq_true_iff.mp h
  obtain ⟨a1, h0⟩ := Bool.and_eq_true_iff.mp h0
  obtain ⟨a2, h0⟩ := Bool.and_eq_true_iff.mp h0
  obtain ⟨a3, a4⟩ := Bool.and_eq_true_iff.mp h0
  obtain ⟨h6, h⟩ := Bool.and_eq_true_iff.mp h
  obtain ⟨h7, h⟩ := Bool.and_eq_true_iff.mp h
  obtain ⟨h8, h9⟩ := Bool.and_eq_true_iff.mp h
  exact ⟨⟨a1, a2, a3, of_decide_eq_true a4⟩, of_decide_eq_true h6, of_decide_eq_true h7, of_decide_eq_true h8, of_decide_eq_true h9⟩
def ctB (t : CtT) (cl : PySem.W.Frag → Nat → Addr) (K : PySem.W.Frag) : Bool := (List.range t.n).all fun c =>
  ((List.range t.n).all fun c' => decide (PySem.W.kitOne K (.ref (cl K c)) (.ref (cl K c')) = some (decide (Tag.o c' ∈ t.mro c)))) &&
  ((baseTys.all fun a => decide (PySem.W.kitOne K (.type a) (.ref (cl K c)) = some false)) &&
  ((tgtTys.all fun b => decide (PySem.W.kitOne K (.ref (cl K c)) (.type b) = some (decide (Tag.b b ∈ t.mro c)))) &&
  ((if t.exc c then excKB K (cl K c) else obKB K (cl K c)) && (t.fld c).all fun f => decide (PySem.W.findIn K (.ref (cl K c)) f = some none))))
theorem ctB_ok {t : CtT} {cl : PySem.W.Frag → Nat → Addr} {K : PySem.W.Frag} (h : ctB t cl K = true) : CtOk t K (cl K) := by
  have key : ∀ c, c < t.n → _ := fun c hc => List.all_eq_true.mp h c (List.mem_range.mpr hc)
  refine ⟨fun c hc c' hc' => ?_, fun a ha c hc => ?_, fun c hc b hb => ?_, fun c hc he => ?_, fun c hc he => ?_, fun c hc f hf => ?_⟩
  · exact of_decide_eq_true (List.all_eq_true.mp (Bool.and_eq_true_iff.mp (key c hc)).1 c' (List.mem_range.mpr hc'))
  · exact of_decide_eq_true (List.all_eq_true.mp (Bool.and_eq_true_iff.mp (Bool.and_eq_true_iff.mp (key c hc)).2).1 a ha)
  · exact of_decide_eq_true (List.all_eq_true.mp (Bool.and_eq_true_iff.mp (Bool.and_eq_true_iff.mp (Bool.and_eq_true_iff.mp (key c hc)).2).2).1 b hb)
  · have q := (Bool.and_eq_true_iff.mp (Bool.and_eq_true_iff.mp (Bool.and_eq_true_iff.mp (Bool.and_eq_true_iff.mp (key c hc)).2).2).2).1
    rw [he, if_pos rfl] at q
    exact excKB_ok q
  · have q := (Bool.and_eq_true_iff.mp (Bool.and_eq_true_iff.mp (Bool.and_eq_true_iff.mp (Bool.and_eq_true_iff.mp (key c hc)).2).2).2).1
    rw [he, if_neg Bool.false_ne_true] at q
    exact obKB_ok q
  · exact of_decide_eq_true (List.all_eq_true.mp (Bool.and_eq_true_iff.mp (Bool.and_eq_true_iff.mp (Bool.and_eq_true_iff.mp (Bool.and_eq_true_iff.mp (key c hc)).2).2).2).2 f hf)

/-! ### isinstance -/
inductive TyR (K : PySem.W.Frag) (H : Hp) : V → Value → Prop where
  | x {v : V} {t : Value} (h : TyX K H v t) : TyR K H v t
  | fT {a : Addr} {o : Obj} {kvs : List (List Key × V)} (e : H a = some (.frz o (.dT kvs))) : TyR K H (.ref a) (.type "dict")
  | exc {a C : Addr} {φ : Heap → Prop} {d : Option Addr} (e : H a = some (.ext φ)) (i : IsExc φ a C d) (k : ExcK K C) (hd : ∀ dd, d = some dd → ∃ o fs, H dd = some o ∧ IsXd o dd fs) : TyR K H (.ref a) (.ref C)
section
variable {X : Cx} {pins : List (Addr × Obj)} {σ : St} {H : Hp} {s : Shared}
/-- an exception's own dict -/
theorem xd_ns (I : Inv X pins σ H s) {dd : Addr} {o : HO} {fs : List (Str × V)} (e : H dd = some o) (h : IsXd o dd fs) : ∃ mA, s.heap.Ns1 dd mA ∧ ∀ f, RelO (fs.lookup f) (mA f) := by
  rcases h with rfl | rfl
  · exact I.hok dd _ e
  · exact exd_at I.hok e
theorem inst_exc (I : Inv X pins σ H s) {a C : Addr} {φ : Heap → Prop} {d : Option Addr} (e : H a = some (.ext φ)) (i : IsExc φ a C d) (hd : ∀ dd, d = some dd → ∃ o fs, H dd = some o ∧ IsXd o dd fs) :
    ∃ oe od, PySem.W.InstAt s.heap a oe C od ∧ ∀ dd, d = some dd → ∃ ob, od = some ob ∧ s.heap.get? dd = some ob := by
  obtain ⟨hp, _, _⟩ := (show ObjOk X.prog X.w H s.heap a (.ext φ) from I.hok a _ e)
  obtain ⟨oe, vs, ho, hz, hf⟩ := i _ hp
  cases d with
  | none => exact ⟨oe, none, ⟨ho, hz.1, by unfold PySem.W.notCls; rw [hf] <;> rfl, by rw [hz.2]; trivial⟩, fun dd z => by cases z⟩
  | some dd =>
    obtain ⟨o, fs, h1, h2⟩ := hd dd rfl
    obtain ⟨mA, hns, _⟩ := xd_ns I h1 h2
    obtain ⟨ob, hob, _⟩ := lookIn_ns hns
    exact ⟨oe, some ob, ⟨ho, hz.1, by unfold PySem.W.notCls; rw [hf] <;> rfl, by rw [hz.2]; exact hob⟩, fun d' z => by cases z; exact ⟨ob, rfl, hob⟩⟩
theorem kitR_of {x : V} {u t : Value} (I : Inv X pins σ H s) (rx : RelV x u) (ty : TyR X.K H x t) : ∃ P : Heap → Prop, PySem.W.KitX X.K u t P ∧ P s.heap ∧ u ≠ .builtin "__main__.__loader__#opaque" := by
  cases ty with
  | x h => exact kit_of I rx h
  | fT e =>
    cases rx
    obtain ⟨_, _, _, xs, _, o, es, ep, h1, h2, _⟩ := (show ObjOk X.prog X.w H s.heap _ (.frz _ (.dT _)) from I.hok _ _ e)
    exact ⟨_, PySem.W.kitx_dict, ⟨o, h1, h2.1⟩, fun z => nomatch z⟩
  | exc e i k hd =>
    cases rx
    obtain ⟨oe, od, J, _⟩ := inst_exc I e i hd
    exact ⟨_, PySem.W.kitx_exc (ox := oe) (od := od) k.cl k.hg k.hk k.hs k.ha k.hn k.ht k.hm, J, fun z => nomatch z⟩
def rIsR (K : PySem.W.Frag) : List V → Hp → VK → Prop := fun xs H Q => ∃ (x c : V) (t u : Value) (b : Bool), xs = [x, c] ∧ ClsV c u ∧ TyR K H x t ∧ PySem.W.kitOne K t u = some b ∧ Q (.bl b) H
def rIsRT (K : PySem.W.Frag) : List V → Hp → VK → Prop := fun xs H Q => ∃ (x : V) (tp : Addr) (cs : List V) (t : Value) (us : List Value) (b : Bool), xs = [x, .ref tp] ∧ SqT K H tp cs ∧ Paired ClsV cs us ∧ TyR K H x t ∧ PySem.W.kitAny K t us = some b ∧ Q (.bl b) H
theorem call_isR : CallR X (.builtin "isinstance") (rIsR X.K) := by
  intro pins s σ H xs us Q I r h
  obtain ⟨x, c, t, u, b, rfl, hc, ty, e, q⟩ := h
  cases r with
  | cons rx rr =>
    cases rr with
    | cons rt rr =>
      cases rr
      have ec := hc.eq rt
      subst ec
      obtain ⟨P, Z, p, hx⟩ := kitR_of I rx ty
      exact PySem.W.kia_one Z I.kIn p e hx fun tk => ⟨.bl b, H, I.kept (t' := tk) fun _ _ z => z, rfl, q⟩
theorem call_isRT : CallR X (.builtin "isinstance") (rIsRT X.K) := by
  intro pins s σ H xs us Q I r h
  obtain ⟨x, tp, cs, t, ws, b, rfl, hq, hc, ty, e, q⟩ := h
  cases r with
  | cons rx rr =>
    cases rr with
    | cons rt rr =>
      cases rr
      cases rt
      obtain ⟨its, rv, ht, _⟩ := I.tuple hq
      have ew := ClsV.all hc rv
      subst ew
      obtain ⟨P, Z, p, hx⟩ := kitR_of I rx ty
      obtain ⟨o, ho, hcl, n, hd⟩ := ht
      obtain ⟨oc, od, odt, osl⟩ := o
      dsimp only at hcl hd
      subst hcl hd
      exact PySem.W.kia_tup Z I.kIn p ho e hx fun tk => ⟨.bl b, H, I.kept (t' := tk) fun _ _ z => z, rfl, q⟩
end
/-- what a value is -/
def tagD (t : CtT) : D → Option Tag
  | .non => some (.b "NoneType")
  | .bl _ => some (.b "bool")
  | .int _ => some (.b "int")
  | .str _ => some (.b "str")
  | .lst _ => some (.b "list")
  | .tup _ => some (.b "tuple")
  | .dic _ _ => some (.b "dict")
  | .obj c _ _ => if c < t.n ∧ t.exc c = false then some (.o c) else none
  | .exc c _ _ => if c < t.n ∧ t.exc c = true then some (.o c) else none
  | _ => none
def tagA (t : CtT) (S : Store) : A → Option Tag
  | .val d => tagD t d
  | .loc n => match S[n]? with
    | some (some c) => tagD t (conD c)
    | _ => none
def isTag (t : CtT) : Tag → Tag → Option Bool
  | .b a, .b b => kitB a b
  | .b a, .o c => if c < t.n ∧ a ∈ baseTys then some false else none
  | .o c, .o c' => if c < t.n ∧ c' < t.n then some (decide (Tag.o c' ∈ t.mro c)) else none
  | .o c, .b b => if c < t.n ∧ b ∈ tgtTys then some (decide (Tag.b b ∈ t.mro c)) else none
def clsTag : D → Option Tag
  | .ty n => some (.b n)
  | .cls c => some (.o c)
  | _ => none
def clsTags : List D → Option (List Tag)
  | [] => some []
  | d :: r => match clsTag d, clsTags r with
    | some a, some b => some (a :: b)
    | _, _ => none
def isTags (t : CtT) (a : Tag) : List Tag → Option Bool
  | [] => some false
  | b :: r => match isTag t a b with
    | some true => some true
    | some false => isTags t a r
    | none => none
def hIsI (t : CtT) (as : List A) (S : Store) : Out A := match as with
  | [a, .val k] => (match tagA t S a with
    | some g => (match k with
      | .tup ks => (match clsTags ks with
        | some ts => (match isTags t g ts with
          | some b => .ok (.val (.bl b)) S
          | none => .bad)
        | none => .bad)
      | k => (match clsTag k with
        | some u => (match isTag t g u with
          | some b => .ok (.val (.bl b)) S
          | none => .bad)
        | none => .bad))
    | none => .bad)
  | _ => .bad
def tagV (cl : Nat → Addr) : Tag → Value
  | .b n => .type n
  | .o c => .ref (cl c)
section
variable {t : CtT} {K : PySem.W.Frag} {cl : Nat → Addr} {Hv H : Hp} {S : Store} {ad : List Addr}
theorem tyR_D (T : CtOk t K cl) (e : Ex Hv H) {v : V} {d : D} {g : Tag} (r : Rep K cl Hv v d) (h : tagD t d = some g) : TyR K H v (tagV cl g) := by
  cases r with
  | non => cases h; exact .x (.base .non)
  | bl => cases h; exact .x (.base (.bl _))
  | int => cases h; exact .x (.base (.int _))
  | str => cases h; exact .x (.base (.str _))
  | tup hq rs =>
    cases h
    rcases hq with (hq | ⟨o, hq⟩) | ⟨o, its, n, hk, hc, _⟩
    · exact .x (.base (.tup (e _ _ hq)))
    · exact .x (.fTuple (e _ _ hq))
    · exact .x (.kTuple hk hc)
  | lst hq rs => cases h; exact .x (.base (.lst (e _ _ hq)))
  | dK hq _ _ => cases h; exact .x (.fDict (e _ _ hq))
  | dT hq _ _ => cases h; exact .fT (e _ _ hq)
  | @obj a dx c fs ns vs hq _ _ =>
    simp only [tagD] at h
    split at h
    · rename_i hc
      cases h
      have k := T.obk c hc.1 hc.2
      exact .x (.base (.ins (e _ _ hq) k.cl k.ha k.hn k.ht k.hm))
    · cases h
  | @exc a dx φ o c fs ns vs hq hi ho hx _ _ =>
    simp only [tagD] at h
    split at h
    · rename_i hc
      cases h
      exact .exc (e _ _ hq) hi (T.exk c hc.1 hc.2) fun dd z => by cases z; exact ⟨o, fs, e _ _ ho, hx⟩
    · cases h
  | @exc0 a φ c hq hi =>
    simp only [tagD] at h
    split at h
    · rename_i hc
      cases h
      exact .exc (e _ _ hq) hi (T.exk c hc.1 hc.2) fun dd z => by cases z
    · cases h
  | scr _ => cases h
  | ty => cases h
  | cls => cases h
theorem tyR_A (T : CtOk t K cl) (so : StOk K cl Hv H S ad) {v : V} {a : A} {g : Tag} (r : RepA K cl Hv ad v a) (h : tagA t S a = some g) : TyR K H v (tagV cl g) := by
  cases a with
  | val d => exact tyR_D T so.ex r h
  | loc n =>
    obtain ⟨x, rfl, hx⟩ := r
    unfold tagA at h
    dsimp only at h
    split at h
    · rename_i c ec
      obtain ⟨x', g1, _, g3⟩ := so.at_ n c ec
      rw [hx] at g1
      cases g1
      cases c with
      | lst ds =>
        obtain ⟨xs, g4, _⟩ := g3
        cases h
        exact .x (.base (.lst g4))
      | dic ks vs =>
        cases h
        obtain ⟨kvs, g4, _⟩ := g3
        exact .x (.base (.dK g4))
      | dit ks vs =>
        cases h
        obtain ⟨kvs, g4, _⟩ := g3
        exact .x (.base (.dT g4))
      | ins C ns vs =>
        obtain ⟨dx, fs, g4, _⟩ := g3
        simp only [conD, tagD] at h
        split at h
        · rename_i hc
          cases h
          have k := T.obk C hc.1 hc.2
          exact .x (.base (.ins g4 k.cl k.ha k.hn k.ht k.hm))
        · cases h
    · cases h
theorem isTag_ok (T : CtOk t K cl) {a b : Tag} {k : Bool} (h : isTag t a b = some k) : PySem.W.kitOne K (tagV cl a) (tagV cl b) = some k := by
  cases a with
  | b x =>
    cases b with
    | b y => exact kit_ty h
    | o c =>
      simp only [isTag] at h
      split at h
      · rename_i hc
        cases h
        exact T.bown x hc.2 c hc.1
      · cases h
  | o c =>
    cases b with
    | b y =>
      simp only [isTag] at h
      split at h
      · rename_i hc
        cases h
        exact T.ob c hc.1 y hc.2
      · cases h
    | o c' =>
      simp only [isTag] at h
      split at h
      · rename_i hc
        cases h
        exact T.own c hc.1 c' hc.2
      · cases h
theorem isTags_ok (T : CtOk t K cl) {a : Tag} : ∀ {ts : List Tag} {k : Bool}, isTags t a ts = some k → PySem.W.kitAny K (tagV cl a) (ts.map (tagV cl)) = some k
  | [], k, h => by
    cases h
    rfl
  | b :: ts, k, h => by
    simp only [isTags] at h
    split at h
    · rename_i e
      cases h
      exact kitAny_cons (isTag_ok T e) (fun z => by cases z) fun _ => rfl
    · rename_i e
      exact kitAny_cons (isTag_ok T e) (fun _ => isTags_ok T h) fun z => by cases z
    · cases h
theorem clsTag_ok {v : V} {d : D} {g : Tag} (r : Rep K cl Hv v d) (h : clsTag d = some g) : ClsV v (tagV cl g) := by
  cases r <;> first
    | (cases h; exact .ty _)
    | (cases h; exact .own _)
    | cases h
theorem clsTags_ok : ∀ {vs : List V} {ds : List D} {ts : List Tag}, Reps K cl Hv vs ds → clsTags ds = some ts → Paired ClsV vs (ts.map (tagV cl))
  | _, _, _, .nil, h => by
    cases h
    exact .nil
  | _, _, ts, .cons (d := d) (ds := ds) r rs, h => by
    simp only [clsTags] at h
    cases q1 : clsTag d with
    | none => rw [q1] at h; cases h
    | some a =>
      cases q2 : clsTags ds with
      | none => rw [q1, q2] at h; cases h
      | some b =>
        rw [q1, q2] at h
        cases h
        exact .cons (clsTag_ok r q1) (clsTags_ok rs q2)
end
section
variable {X : Cx} {cl : Nat → Addr} {W : WX} {t : CtT} {x : Str} {pos : Pos}
theorem b_isI (T : CtOk t X.K cl) : ∃ r, CallR X (.builtin "isinstance") r ∧ RdC X.K cl W r (hIsI t) := by
  refine ⟨_, CallR.or call_isR call_isRT, fun σ Hv H S ad xs as Q so rs q => ?_⟩
  unfold hIsI at q
  split at q
  · rename_i a k
    obtain ⟨v, w, rfl, r1, r2⟩ := rep2 rs
    split at q
    · rename_i g eg
      have ty := tyR_A T so r1 eg
      split at q
      · rename_i ks
        split at q
        · rename_i ts ets
          split at q
          · rename_i b eb
            cases r2 with
            | tup hq rr => exact .inr ⟨v, _, _, _, _, b, rfl, ex_t so.ex hq, clsTags_ok rr ets, ty, isTags_ok T eb, q.here so _ .bl⟩
          · exact q.elim
        · exact q.elim
      · split at q
        · rename_i u eu
          split at q
          · rename_i b eb
            exact .inl ⟨v, w, _, _, b, rfl, clsTag_ok r2 eu, ty, isTag_ok T eb, q.here so _ .bl⟩
          · exact q.elim
        · exact q.elim
    · exact q.elim
  · exact q.elim
/-- a class as a value -/
theorem se_cls {c : Nat} (hm : X.mg x = some (.ref (cl c))) (hg : Gl X x := by rfl) (hd : (x == ("__debug__" : Str)) = false := by decide) : SE X cl W (.Name x pos) (eC (.cls c)) := ⟨_, pe_glob (v := .ref (cl c)) hg hm rfl hd, rd_c fun _ => .cls⟩
theorem se_ty {n : String} (hm : X.mg x = none) (hv : bootBuiltins x = some (.type n) := by decide +kernel) (hg : Gl X x := by rfl) (hn : x ≠ "__name__" := by decide) (hd : (x == ("__debug__" : Str)) = false := by decide) : SE X cl W (.Name x pos) (eC (.ty n)) := ⟨_, pe_bltn (v := .ty n) hg hm hv rfl hn hd, rd_c fun _ => .ty⟩
end
end R


namespace R
open PySem L2


/-- the law's def, called at the heap behind the top: the script is frozen, nothing else is tracked -/
theorem law_callG {P : Program} {w : World} {K : PySem.W.Frag} {mg mb : Str → Option Value} {k : Nat} {fa a : Addr} {fd : FuncData} {x : Str} {sp : Sp} {s1 : Shared} {vs : List Value} {ns : List Int}
    (KX : K.In s1.heap) (hns : s1.heap.Ns mainGlobals mg) (hb : s1.heap.Ns builtinsNs mb) (hbb : ∀ x : Str, x ≠ "__name__" → mb x = bootBuiltins x) (hlim : s1.heap.NoLimit) (hg : s1.gens = #[])
    (ha : s1.heap.get? a = some { cls := .type "list", data := .seq vs.toArray }) (hi : PyProof.Rows.IntsAre vs ns) (hl : ns.length ≤ sizeLine) (hr : Room k callerA) {o1 : Obj} (h1 : s1.heap.get? sysModules = some o1) (hk1 : K.lookup sysModules = none) (hne : a ≠ sysModules)
    (F : ∀ base : Heap, K.In base → base.Ns mainGlobals mg → FnG P w K mg base k fa fd [x] sp) (hbind : ∀ (s : Shared) (u : Value), BindsTo s fd ⟨[u], []⟩ [(x, u)])
    (hsp : ∀ H : Hp, (∃ o φ, H sysModules = some (.frz o (.ext φ))) → SqL K H a (ns.map V.int) → sp [.ref a] H (fun v _ => v = .bl true) fun _ _ _ => False) :
    codeAny (model P w) callerA (.call (.ref fa) ⟨[.ref a], []⟩) (fun r s' => r = .ok (.ret (.bool true)) ∧ OldK s1.heap s'.heap ∧ s'.os = s1.os ∧ PyProof.Rows.AllBare s'.gens) s1 := by
  have rv := vals_ints hi
  have main : ∀ H : Hp, (∀ b u, H b = some u → (b = a ∧ K.lookup a = none ∧ u = .frz { cls := .type "list", data := .seq vs.toArray } (.lst (ns.map V.int))) ∨ (b = sysModules ∧ u = .frz o1 (.ext fun _ => True))) → H sysModules = some (.frz o1 (.ext fun _ => True)) → SqL K H a (ns.map V.int) →
      codeAny (model P w) callerA (.call (.ref fa) ⟨[.ref a], []⟩) (fun r s' => r = .ok (.ret (.bool true)) ∧ OldK s1.heap s'.heap ∧ s'.os = s1.os ∧ PyProof.Rows.AllBare s'.gens) s1 := fun H only hH1 hS => by
    have hok : HOk P w H s1.heap := fun b u e => by
      rcases only b u e with ⟨rfl, _, rfl⟩ | ⟨rfl, rfl⟩
      · exact ⟨ha, by rw [List.length_map]; exact hl, vs, _, rv, ha⟩
      · exact ⟨h1, trivial, ⟨o1, h1⟩, fun _ _ _ _ => trivial⟩
    have none_of : ∀ {b : Addr}, b ≠ a → b ≠ sysModules → H b = none := fun {b} hb hb1 => by
      cases q : H b with
      | none => rfl
      | some u => exact (only b u q).elim (fun z => absurd z.1 hb) fun z => absurd z.1 hb1
    have kp : ∀ {b : Addr} {o : Obj}, s1.heap.get? b = some o → H b = none → (hidT s1.heap H).get? b = some o := fun e n => hidT_get e n
    have ns_ne : ∀ {b : Addr} {m : Str → Option Value}, b ≠ sysModules → s1.heap.Ns b m → (hidT s1.heap H).Ns b m := fun {b m} hb1 ⟨o, es, ep, e, d, r⟩ => by
      refine ⟨o, es, ep, kp e (none_of (fun z => ?_) hb1), d, r⟩
      subst z
      rw [ha] at e
      cases e
      cases d
    have kin : K.In (hidT s1.heap H) := fun b o e => kp (KX b o e) (by
      cases q : H b with
      | none => rfl
      | some u =>
        rcases only b u q with ⟨rfl, z, _⟩ | ⟨rfl, _⟩
        · rw [z] at e
          cases e
        · rw [hk1] at e
          cases e)
    have hM : Mod K mg (hidT s1.heap H) := ⟨kin, ns_ne (by decide) hns, ⟨mb, ns_ne (by decide) hb, hbb⟩, hlim.elim fun mc z => ⟨mc, ns_ne (by decide) z.1, z.2⟩⟩
    have e0 : Env0 P w K mg (hidT s1.heap H) callerA [] s1 H := ⟨rfl, hM, fun b o e => of_hidT e, Nat.le_of_eq (hidT_size _ _), trivial, fun b hb => (List.not_mem_nil hb).elim, hok, .of_eq hg⟩
    refine codeAny_mono ((F _ kin (ns_ne (by decide) hns)).run callerA [] s1 H ⟨[.ref a], []⟩ [.ref a] [.ref a] _ _ rfl hr e0 (hbind s1 (.ref a)) (.cons rfl .nil) (hsp H ⟨o1, _, hH1⟩ hS)) fun r s' h => ?_
    match r, h with
    | .error e, h =>
      obtain ⟨_, _, _, _, _, _, _, _, _, _, _, _, z⟩ := h
      exact z.elim
    | .ok (.ret u), ⟨v, H', os, bare, un, hok', r', q⟩ =>
      have q' : v = .bl true := q
      subst q'
      obtain rfl : u = Value.bool true := r'
      refine ⟨rfl, OldK.of_keep fun b o e => ?_, os, bare⟩
      cases q : H b with
      | none => exact un.keep b o e q (fun z => (List.not_mem_nil z).elim) (fun z => (List.not_mem_nil z).elim)
      | some u =>
        rcases only b u q with ⟨rfl, _, rfl⟩ | ⟨rfl, rfl⟩
        · obtain ⟨e2, _⟩ := hok' b _ (un.frzs b _ _ q)
          rw [ha] at e
          cases e
          exact e2
        · obtain ⟨e2, _⟩ := hok' _ _ (un.frzs _ _ _ q)
          rw [h1] at e
          cases e
          exact e2
  cases hk : K.lookup a with
  | some o =>
    have e := KX a o hk
    rw [ha] at e
    cases e
    refine main (upd (fun _ => none) sysModules (.frz o1 (.ext fun _ => True))) (fun b u z => ?_) upd_same (.inr ⟨_, vs.toArray, _, hk, rfl, rfl, rfl, by rw [List.size_toArray, hi.length]; exact hl, by simpa using rv⟩)
    by_cases hb : b = sysModules
    · subst hb
      rw [upd_same] at z
      exact .inr ⟨rfl, (Option.some.inj z).symm⟩
    · rw [upd_ne hb] at z
      cases z
  | none =>
    refine main (upd (upd (fun _ => none) sysModules (.frz o1 (.ext fun _ => True))) a (.frz { cls := .type "list", data := .seq vs.toArray } (.lst (ns.map V.int)))) (fun b u z => ?_) (by rw [upd_ne (Ne.symm hne), upd_same]) (.inl (.inr ⟨_, upd_same⟩))
    by_cases hb : b = a
    · subst hb
      rw [upd_same] at z
      exact .inl ⟨rfl, hk, (Option.some.inj z).symm⟩
    · rw [upd_ne hb] at z
      by_cases hb1 : b = sysModules
      · subst hb1
        rw [upd_same] at z
        exact .inr ⟨rfl, (Option.some.inj z).symm⟩
      · rw [upd_ne hb1] at z
        cases z
theorem walkG {l : PySem.W.OpenLaw} {n k : Nat} {q : Program} {loose : List Str} {XP : (Str → Option Value) → Heap → Prop} {YP : World → Heap → Prop} {d : DefRec} {x : Str}
    (hn : l.most = some n) (hn2 : n ≤ sizeLine) (hdf : d.params.defaults = []) (hr : Room k callerA)
    (F : ∀ (w : World) (mg : Str → Option Value) (fa : Addr) (h : Heap), YP w h → h.Ns mainGlobals mg → mg d.name = some (.ref fa) →
      ∃ (K : PySem.W.Frag) (fd : FuncData) (sp : Sp), K.In h ∧ K.lookup sysModules = none ∧ (∃ o, h.get? sysModules = some o ∧ o.cls ≠ .type "list") ∧ (∀ (s : Shared) (u : Value), BindsTo s fd ⟨[u], []⟩ [(x, u)]) ∧
        (∀ (H : Hp) (a : Addr) (ns : List Int), ns.length ≤ n → (∃ o φ, H sysModules = some (.frz o (.ext φ))) → SqL K H a (ns.map V.int) → sp [.ref a] H (fun v _ => v = .bl true) fun _ _ _ => False) ∧
        ∀ base : Heap, K.In base → base.Ns mainGlobals mg → FnG l.prog w K mg base k fa fd [x] sp) :
    PySem.W.WalkO q loose XP YP l.row.toRowW d [] (fun f vs => PySem.call f vs) := by
  refine Att.attach_call hn hdf fun w s₀ s1 mg mb fa o pm cd doc a vs ns G Y ho hd hcd hmg hobj hints hlen hg => ?_
  obtain ⟨K, fd, sp, KX, hk1, ⟨o1, h1, hl1⟩, hb, hsp, hF⟩ := F w mg fa _ Y G.T.g hmg
  exact law_callG KX G.T.g G.T.b G.T.builtins G.T.nolimit hg hobj hints (Nat.le_trans hlen hn2) hr h1 hk1 (fun z => by subst z; rw [hobj] at h1; cases h1; exact hl1 rfl) hF hb fun H hm hS => hsp H a ns hlen hm hS
/-- the law's own promise: g gives True for every script -/
theorem spF_law {K : PySem.W.Frag} {cl : Nat → Addr} {g : List A → Store → Out A} {H : Hp} {a : Addr} {ns : List Int} (hm : ∃ o φ, H sysModules = some (.frz o (.ext φ))) (hS : SqL K H a (ns.map V.int)) (h : ∃ S, g [.val (.scr ns)] [] = .ok (.val (.bl true)) S) :
    SpF K cl 1 g [.ref a] H (fun v _ => v = .bl true) fun _ _ _ => False := by
  obtain ⟨S, e⟩ := h
  refine ⟨rfl, H, [], [], [.val (.scr ns)], .cons (.scr hS) .nil, ⟨Ex.refl _, rfl, fun n c z => by simp at z, fun n m c c' a z => by simp at z, hm⟩, ?_⟩
  rw [e]
  intro Hv' ad' H' _ _ _ v rv
  cases rv
  rfl
end R


namespace R
open PySem L2

/-! ### data with dicts, as the model's plain data -/
mutual
def toPyF : D → Option PyData
  | .non => some .none
  | .bl b => some (.bool b)
  | .int i => some (.int i)
  | .str x => some (.str x)
  | .tup xs => (toPyFs xs).map .tuple
  | .lst xs => (toPyFs xs).map .list
  | .dic ks vs => match toPyFs ks, toPyFs vs with
    | some a, some b => some (.dict (a.zip b))
    | _, _ => none
  | .obj _ _ _ => none
  | .exc _ _ _ => none
  | .scr _ => none
  | .ty _ => none
  | .cls _ => none
def toPyFs : List D → Option (List PyData)
  | [] => some []
  | x :: r => match toPyF x, toPyFs r with
    | some a, some b => some (a :: b)
    | _, _ => none
end
def keyPy : Key → PyData
  | .inl i => .int i
  | .inr x => .str x
theorem toPyFs_keys : ∀ (ks : List Key), toPyFs (ks.map keyD) = some (ks.map keyPy)
  | [] => rfl
  | .inl i :: ks => by simp only [List.map_cons, keyD, toPyFs, toPyF, toPyFs_keys ks, keyPy]
  | .inr x :: ks => by simp only [List.map_cons, keyD, toPyFs, toPyF, toPyFs_keys ks, keyPy]
theorem toPyFs_tkeys : ∀ (ks : List (List Key)), toPyFs (ks.map fun k => .tup (k.map keyD)) = some (ks.map fun k => .tuple (k.map keyPy))
  | [] => rfl
  | k :: ks => by simp only [List.map_cons, toPyFs, toPyF, toPyFs_tkeys ks, toPyFs_keys k, Option.map_some]
theorem toPyFs_length : ∀ {ds : List D} {ps : List PyData}, toPyFs ds = some ps → ps.length = ds.length
  | [], ps, h => by cases h; rfl
  | d :: ds, ps, h => by
    simp only [toPyFs] at h
    cases q1 : toPyF d with
    | none => rw [q1] at h; cases h
    | some a =>
      cases q2 : toPyFs ds with
      | none => rw [q1, q2] at h; cases h
      | some b =>
        rw [q1, q2] at h
        cases h
        simp [toPyFs_length q2]
section
variable {X : Cx} {pins : List (Addr × Obj)} {σ : St} {H : Hp} {s : Shared} {cl : Nat → Addr}
theorem key_reads {k : Key} {v : Value} (h : keyIs k v = true) : Reads s.heap v (keyPy k) [] := by
  rcases keyIs_shape h with ⟨i, t, rfl, rfl⟩ | ⟨x, t, rfl, rfl⟩
  · exact .int _ _
  · exact .str _ _
theorem readsAll_keys : ∀ {es : List DictEntry} {kvs : List (Key × Value)}, Pairs (mixKind X.prog X.w) es kvs → ReadsAll s.heap (es.map (·.key)) (kvs.map fun p => keyPy p.1) [] ∧ es.map (·.val) = kvs.map (·.2)
  | _, _, .nil => ⟨.nil, rfl⟩
  | _, _, .cons (e := e) (kv := kv) h1 h2 t => by
    obtain ⟨r, q⟩ := readsAll_keys t
    exact ⟨.cons (as := []) (bs := []) (key_reads h1) r, by rw [List.map_cons, List.map_cons, h2, q]⟩
theorem readsAll_kv : ∀ {ks : List Key} {us : List Value}, Vals (ks.map kV) us → ReadsAll s.heap us (ks.map keyPy) []
  | [], _, .nil => .nil
  | .inl i :: ks, _, .cons r t => by
    obtain ⟨tk, rfl⟩ := r
    exact .cons (as := []) (bs := []) (.int _ _) (readsAll_kv t)
  | .inr x :: ks, _, .cons r t => by
    obtain ⟨tk, rfl⟩ := r
    exact .cons (as := []) (bs := []) (.str _ _) (readsAll_kv t)
theorem tuple_reads (I : Inv X pins σ H s) {a : Addr} {xs : List V} (h : SqT X.K H a xs) {ps : List PyData} {as : List Addr} (r : ∀ us, Vals xs us → ReadsAll s.heap us ps as) : Reads s.heap (.ref a) (.tuple ps) as := by
  obtain ⟨its, rv, ⟨o, ho, hc, n, hd⟩, _⟩ := I.tuple h
  exact .tuple ho hc hd (r its rv)
theorem kv_vals : ∀ {κ : Type} {kvs : List (κ × V)} {vs : List (κ × Value)}, KV kvs vs → Vals (kvs.map (·.2)) (vs.map (·.2)) ∧ kvs.map (·.1) = vs.map (·.1)
  | _, _, _, .nil => ⟨.nil, rfl⟩
  | _, _, _, .cons h t => by
    obtain ⟨a, b⟩ := kv_vals t
    exact ⟨.cons h.2 a, by rw [List.map_cons, List.map_cons, h.1, b]⟩
theorem sm_ne {Hv : Hp} {a : Addr} {o : HO} (sm : ∃ o φ, Hv sysModules = some (.frz o (.ext φ))) (h : Hv a = some o) (hn : ∀ o' φ, o ≠ .frz o' (.ext φ)) : a ≠ sysModules := fun z => by
  obtain ⟨o', φ, e⟩ := sm
  subst z
  rw [h] at e
  exact hn o' φ (Option.some.inj e)
theorem rep_reads (I : Inv X pins σ H s) (sm : ∃ o φ, H sysModules = some (.frz o (.ext φ))) {v : V} {d : D} (h : Rep X.K cl H v d) : ∀ p u, toPyF d = some p → RelV v u → ∃ as, Reads s.heap u p as ∧ sysModules ∉ as :=
  Rep.rec (motive_1 := fun v d _ => ∀ p u, toPyF d = some p → RelV v u → ∃ as, Reads s.heap u p as ∧ sysModules ∉ as) (motive_2 := fun vs ds _ => ∀ ps us, toPyFs ds = some ps → Vals vs us → ∃ as, ReadsAll s.heap us ps as ∧ sysModules ∉ as)
    (fun p u e r => by
      simp only [toPyF, Option.some.injEq] at e
      subst e
      cases r
      exact ⟨[], .none, List.not_mem_nil⟩)
    (fun p u e r => by
      simp only [toPyF, Option.some.injEq] at e
      subst e
      cases r
      exact ⟨[], .bool _, List.not_mem_nil⟩)
    (fun p u e r => by
      simp only [toPyF, Option.some.injEq] at e
      subst e
      obtain ⟨t, rfl⟩ := r
      exact ⟨[], .int _ _, List.not_mem_nil⟩)
    (fun p u e r => by
      simp only [toPyF, Option.some.injEq] at e
      subst e
      obtain ⟨t, rfl⟩ := r
      exact ⟨[], .str _ _, List.not_mem_nil⟩)
    (fun {a xs ds} hq _ ih p u e r => by
      simp only [toPyF] at e
      cases q : toPyFs ds with
      | none => rw [q] at e; cases e
      | some ps =>
        rw [q] at e
        cases e
        cases r
        obtain ⟨its, rv, ⟨o, ho, hc, n, hd⟩, _⟩ := I.tuple hq
        obtain ⟨as, h1, h2⟩ := ih ps its q rv
        exact ⟨as, .tuple ho hc hd h1, h2⟩)
    (fun {a xs ds} hq _ ih p u e r => by
      simp only [toPyF] at e
      cases q : toPyFs ds with
      | none => rw [q] at e; cases e
      | some ps =>
        rw [q] at e
        cases e
        cases r
        obtain ⟨_, its, n, rv, ho⟩ := (show ObjOk X.prog X.w H s.heap a (.lst xs) from I.hok a _ hq)
        obtain ⟨as, h1, h2⟩ := ih ps its q rv
        refine ⟨a :: as, .list ho rfl rfl h1, fun z => ?_⟩
        rcases List.mem_cons.mp z with z | z
        · exact sm_ne sm hq (fun _ _ z => by cases z) z.symm
        · exact h2 z)
    (fun _ p u e r => by simp only [toPyF] at e; cases e)
    (fun {a o kvs ks vs} hq ek _ ih p u e r => by
      simp only [toPyF] at e
      have e1 : toPyFs ks = some ((kvs.map (·.1)).map keyPy) := by
        rw [ek, ← toPyFs_keys, List.map_map]
        rfl
      rw [e1] at e
      cases q : toPyFs vs with
      | none => rw [q] at e; cases e
      | some ps =>
        rw [q] at e
        cases e
        cases r
        obtain ⟨_, hsy, ws, kw, o2, es, ep, g1, g2, g3, _, g5, _⟩ := dk_rd I.hok (.inr ⟨o, hq⟩)
        obtain ⟨rv, ek2⟩ := kv_vals kw
        obtain ⟨h3, h4⟩ := readsAll_keys (s := s) g5
        obtain ⟨as, h1, h2⟩ := ih ps _ q rv
        have hl : ((kvs.map (·.1)).map keyPy).length = ps.length := by
          have := toPyFs_length q
          have h5 := rv.length
          have h6 := Reps.length (K := X.K) (cl := cl) (H := H) (vs := kvs.map (·.2)) (ds := vs) (by assumption)
          simp at this h5 h6 ⊢
          omega
        refine ⟨a :: [] ++ as, .dict (kvs := ((kvs.map (·.1)).map keyPy).zip ps) g1 g2.1 g3 ?_ ?_, fun z => ?_⟩
        · rw [List.map_fst_zip (by omega), ek2, List.map_map]
          exact h3
        · rw [List.map_snd_zip (by omega), h4]
          exact h1
        · rcases List.mem_cons.mp z with z | z
          · rw [← z] at hsy
            simp at hsy
          · exact h2 (by simpa using z))
    (fun {a o kvs ks vs} hq ek _ ih p u e r => by
      simp only [toPyF] at e
      have e1 : toPyFs ks = some ((kvs.map (·.1)).map fun k => .tuple (k.map keyPy)) := by
        rw [ek, ← toPyFs_tkeys, List.map_map]
        rfl
      rw [e1] at e
      cases q : toPyFs vs with
      | none => rw [q] at e; cases e
      | some ps =>
        rw [q] at e
        cases e
        cases r
        obtain ⟨hoo, _, hsy, xs, kw, o2, es, ep, g1, g2, g3, g4, _⟩ := (show ObjOk X.prog X.w H s.heap a (.frz o (.dT kvs)) from I.hok a _ hq)
        have main : ∀ {l : List (List Key × V)} {m : List (List Key × Addr × Value)}, Paired (fun (p : List Key × V) (q : List Key × Addr × Value) => p.1 = q.1 ∧ H q.2.1 = some (.tup (p.1.map kV)) ∧ RelV p.2 q.2.2) l m →
            ReadsAll s.heap (m.map fun x => Value.ref x.2.1) ((l.map (·.1)).map fun k => .tuple (k.map keyPy)) [] ∧ Vals (l.map (·.2)) (m.map (·.2.2)) := by
          intro l m hp
          induction hp with
          | nil => exact ⟨.nil, .nil⟩
          | @cons p q ps qs hq _ ih =>
            exact ⟨.cons (as := []) (bs := []) (tuple_reads I (.inl (.inl hq.2.1)) fun us r => readsAll_kv r) ih.1, .cons hq.2.2 ih.2⟩
        obtain ⟨h3, rv⟩ := main kw
        obtain ⟨as, h1, h2⟩ := ih ps _ q rv
        have hl : ((kvs.map (·.1)).map fun k => PyData.tuple (k.map keyPy)).length = ps.length := by
          have := toPyFs_length q
          have h6 := Reps.length (K := X.K) (cl := cl) (H := H) (vs := kvs.map (·.2)) (ds := vs) (by assumption)
          simp at this h6 ⊢
          omega
        refine ⟨a :: [] ++ as, .dict (kvs := ((kvs.map (·.1)).map fun k => PyData.tuple (k.map keyPy)).zip ps) g1 g2.1 g3 ?_ ?_, fun z => ?_⟩
        · rw [List.map_fst_zip (by omega), g4, List.map_map]
          exact h3
        · rw [List.map_snd_zip (by omega), g4, List.map_map]
          exact h1
        · rcases List.mem_cons.mp z with z | z
          · rw [← z] at hsy
            simp at hsy
          · exact h2 (by simpa using z))
    (fun _ _ _ _ p u e r => by simp only [toPyF] at e; cases e)
    (fun _ _ _ _ _ _ _ p u e r => by simp only [toPyF] at e; cases e)
    (fun _ _ p u e r => by simp only [toPyF] at e; cases e)
    (fun p u e r => by simp only [toPyF] at e; cases e)
    (fun p u e r => by simp only [toPyF] at e; cases e)
    (fun ps us e r => by
      simp only [toPyFs, Option.some.injEq] at e
      subst e
      cases r
      exact ⟨[], .nil, List.not_mem_nil⟩)
    (fun {v d vs ds} _ _ ih1 ih2 ps us e r => by
      simp only [toPyFs] at e
      cases q1 : toPyF d with
      | none => rw [q1] at e; cases e
      | some p =>
        cases q2 : toPyFs ds with
        | none => rw [q1, q2] at e; cases e
        | some t =>
          rw [q1, q2] at e
          cases e
          cases r with
          | cons r1 r2 =>
            obtain ⟨as, h1, h2⟩ := ih1 p _ q1 r1
            obtain ⟨bs, h3, h4⟩ := ih2 t _ q2 r2
            exact ⟨as ++ bs, .cons h1 h3, fun z => (List.mem_append.mp z).elim h2 h4⟩) h
end
/-! ### repr -/
def showB (p : PyData) : Bool := p.showable && (decide (p.depth ≤ 60) && decide (p.shown.length ≤ 100000))
def hRepr (as : List A) (S : Store) : Out A := match as with
  | [.val d] => (match toPyF d with
    | some p => if showB p = true then .ok (.val (.str p.shown)) S else .bad
    | none => .bad)
  | _ => .bad
section
variable {X : Cx} {cl : Nat → Addr} {W : WX}
def rRepr (K : PySem.W.Frag) (cl : Nat → Addr) : List V → Hp → VK → Prop := fun xs H Q => ∃ v d p, xs = [v] ∧ Rep K cl H v d ∧ (∃ o φ, H sysModules = some (.frz o (.ext φ))) ∧ toPyF d = some p ∧ showB p = true ∧ Q (.str p.shown) H
theorem call_reprR (gd : X.A.guards = some []) (hu : X.A.units + 64 < cLine) : CallR X (.builtin "repr") (rRepr X.K cl) := by
  intro pins s σ H xs us Q I r h
  obtain ⟨v, d, p, rfl, rd, sm, hp, hs, q⟩ := h
  obtain ⟨u, rfl, rv⟩ := vals1 r
  obtain ⟨s1, hs2⟩ := Bool.and_eq_true_iff.mp hs
  obtain ⟨s2, s3⟩ := Bool.and_eq_true_iff.mp hs2
  have hdep := of_decide_eq_true s2
  have hlen := sz_of (of_decide_eq_true s3)
  obtain ⟨as, hr, hsm⟩ := rep_reads I sm rd p u hp rv
  have ref : ∀ a, u = .ref a → wpAny (model X.prog X.w) X.A (call (.builtin "repr") [u]) (EP X pins σ Q) X.xe s := fun a e => by
    subst e
    exact repr_of_reads' hr s1 (fun _ => hsm) gd (by omega) (fun _ _ z => z) (fun h' t tk hk => ⟨.str p.shown, H, I.kept (t' := tk) hk, ⟨t, rfl⟩, q⟩) hlen
  cases hr with
  | none => exact PySem.P.repr_of_none ⟨.str _, H, I.tok _, ⟨_, rfl⟩, q⟩
  | bool b => exact PySem.P.repr_of_bool ⟨.str _, H, I.tok _, ⟨_, rfl⟩, q⟩
  | int i t => exact PySem.P.repr_of_int (of_decide_eq_true s1) ⟨.str _, H, I.tok _, ⟨_, rfl⟩, q⟩
  | str x t => exact PySem.P.repr_of_str ⟨.str _, H, I.tok _, ⟨_, rfl⟩, q⟩ hlen
  | list _ _ _ _ => exact ref _ rfl
  | tuple _ _ _ _ => exact ref _ rfl
  | dict _ _ _ _ _ => exact ref _ rfl
theorem b_repr (gd : X.A.guards = some []) (hu : X.A.units + 64 < cLine) : ∃ r, CallR X (.builtin "repr") r ∧ RdC X.K cl W r hRepr := by
  refine ⟨_, call_reprR (cl := cl) gd hu, fun σ Hv H S ad xs as Q so rs q => ?_⟩
  unfold hRepr at q
  split at q
  · rename_i d
    obtain ⟨v, rfl, r1⟩ := rep1 rs
    split at q
    · rename_i p hp
      split at q
      · rename_i hs
        exact ⟨v, d, p, rfl, Rep.mono so.ex r1, so.sm.elim fun o z => z.elim fun φ z => ⟨o, φ, so.ex _ _ z⟩, hp, hs, q.here so _ .str⟩
      · exact q.elim
    · exact q.elim
  · exact q.elim
end
end R


namespace R
open PySem L2

/-! ### attributes -/
def fldOf (f : Str) : List Str → List D → Option D
  | n :: ns, d :: ds => if f = n then some d else fldOf f ns ds
  | _, _ => none
def hAttr (t : CtT) (f : Str) (a : A) (S : Store) : Out A := match a with
  | .val (.exc c ns vs) => if c < t.n ∧ t.exc c = true ∧ f ∈ t.fld c then (match fldOf f ns vs with
    | some d => .ok (.val d) S
    | none => .bad) else .bad
  | .val (.obj c ns vs) => if c < t.n ∧ t.exc c = false ∧ f ∈ t.fld c then (match fldOf f ns vs with
    | some d => .ok (.val d) S
    | none => .bad) else .bad
  | .loc n => (match S[n]? with
    | some (some (.ins c ns vs)) => if c < t.n ∧ t.exc c = false ∧ f ∈ t.fld c then (match fldOf f ns vs with
      | some d => .ok (.val d) S
      | none => .bad) else .bad
    | _ => .bad)
  | _ => .bad
def rXfR (K : PySem.W.Frag) (f : Str) : V → Hp → VK → Prop := fun x H Q => ∃ (a C dx : Addr) (φ : Heap → Prop) (o : HO) (fs : List (Str × V)) (v : V), x = .ref a ∧ H a = some (.ext φ) ∧ IsExc φ a C (some dx) ∧ H dx = some o ∧ IsXd o dx fs ∧ ExcK K C ∧ PySem.W.findIn K (.ref C) f = some none ∧ fs.lookup f = some v ∧ Q v H
def rFldR (K : PySem.W.Frag) (f : Str) : V → Hp → VK → Prop := fun x H Q => ∃ a C dx fs v, x = .ref a ∧ H a = some (.ins C dx fs) ∧ Cls K C ∧ NoAttr K C f ∧ fs.lookup f = some v ∧ Q v H
theorem fld_lookup {K : PySem.W.Frag} {cl : Nat → Addr} {H : Hp} {f : Str} : ∀ {fs : List (Str × V)} {ns : List Str} {vs : List D} {d : D}, fs.map (·.1) = ns → Reps K cl H (fs.map (·.2)) vs → fldOf f ns vs = some d → ∃ v, fs.lookup f = some v ∧ Rep K cl H v d
  | [], _, _, d, rfl, .nil, h => by cases h
  | (n, v) :: fs, _, _, d, rfl, .cons r rs, h => by
    simp only [List.map_cons, fldOf] at h
    by_cases e : f = n
    · rw [if_pos e] at h
      cases h
      exact ⟨v, by simp [List.lookup, e], r⟩
    · rw [if_neg e] at h
      obtain ⟨w, h1, h2⟩ := fld_lookup rfl rs h
      exact ⟨w, by simp [List.lookup, beq_eq_false_iff_ne.mpr e, h1], h2⟩
theorem flds_lookup {K : PySem.W.Frag} {cl : Nat → Addr} {H : Hp} {f : Str} {fs : List (Str × V)} : ∀ {ns : List Str} {vs : List D} {d : D}, HasF fs ns → Reps K cl H (flds fs ns) vs → fldOf f ns vs = some d → ∃ v, fs.lookup f = some v ∧ Rep K cl H v d
  | [], _, d, _, .nil, h => by cases h
  | n :: ns, _, d, hf, .cons r rs, h => by
    simp only [fldOf] at h
    by_cases e : f = n
    · rw [if_pos e] at h
      cases h
      obtain ⟨v, hv⟩ := hf n List.mem_cons_self
      refine ⟨v, by rw [e]; exact hv, ?_⟩
      dsimp only at r
      rw [hv] at r
      exact r
    · rw [if_neg e] at h
      exact flds_lookup (fun m hm => hf m (List.mem_cons_of_mem _ hm)) rs h
section
variable {X : Cx} {cl : Nat → Addr} {W : WX} {t : CtT} {e : Expr} {f : Str} {pos : Pos}
theorem pe_attrR {te : TE} (he : PE X e te) (hb : attributeBase e f X.env (eval e X.env) = eval e X.env) : PE X (.Attribute e f pos) (fun σ H Q => te σ H fun x H1 => rFldR X.K f x H1 Q ∨ rXfR X.K f x H1 Q) := by
  refine ⟨fun pins s σ H Q I h => ?_⟩
  refine attr_of hb (thn (he.run pins s σ H _ I h) fun u s1 ⟨x, H1, I1, rx, q⟩ => ?_)
  rcases q with ⟨a, C, dx, fs, v, rfl, ea, c, n, l, q⟩ | ⟨a, C, dx, φ, o, fs, v, rfl, ea, ie, ed, hx, k, hno, l, q⟩
  · obtain rfl : u = Value.ref a := rx
    exact getattr_ok I1 ea c n l fun u' s2 I2 ru => ⟨v, H1, I2, ru, q⟩
  · obtain rfl : u = Value.ref a := rx
    obtain ⟨oe, od, J, hod⟩ := inst_exc I1 ea ie fun dd z => by cases z; exact ⟨o, fs, ed, hx⟩
    obtain ⟨ob, rfl, hob⟩ := hod dx rfl
    obtain ⟨mA, hns, hr⟩ := xd_ns I1 ed hx
    obtain ⟨od2, ho2, hl⟩ := lookIn_ns hns
    rw [hob] at ho2
    cases ho2
    obtain ⟨u', hu, ru⟩ := RelO.some_of (v := v) (o := mA f) (by rw [← l]; exact hr f)
    exact HandSPX.exc_get I1.kIn J k.hg k.hk k.hs (PySem.W.findObj_own k.hd hno rfl (by rw [hl, hu])) (handed_of ru) ⟨v, H1, I1.tok _, ru, q⟩
theorem se_attr (T : CtOk t X.K cl) {fe : Ev A} (h : SE X cl W e fe) (hb : attributeBase e f X.env (eval e X.env) = eval e X.env := by rfl) : SE X cl W (.Attribute e f pos) (eUn (hAttr t f) fe) := by
  obtain ⟨_, p, r⟩ := h.ex
  refine ⟨_, pe_attrR p hb, fun σ Hv H S ad env Q re so q => ?_⟩
  refine r σ Hv H S ad env _ re so (q.bind.mono fun a S1 Hv1 ad1 H1 e1 p1 s1 q1 v1 r1 => ?_)
  unfold hAttr at q1
  split at q1
  · rename_i c ns vs
    split at q1
    · rename_i hc
      split at q1
      · rename_i d ed
        cases r1 with
        | @exc a dx φ o c fs ns vs hq hi ho hx hf rs =>
          obtain ⟨v, h1, h2⟩ := flds_lookup hf rs ed
          exact .inr ⟨a, _, dx, φ, o, fs, v, rfl, s1.ex _ _ hq, hi, s1.ex _ _ ho, hx, T.exk c hc.1 hc.2.1, T.noat c hc.1 f hc.2.2, h1, q1.here s1 v h2⟩
        | exc0 hq hi => cases ed
      · exact q1.elim
    · exact q1.elim
  · rename_i c ns vs
    split at q1
    · rename_i hc
      split at q1
      · rename_i d ed
        cases r1 with
        | @obj a dx c fs ns vs hq hn rs =>
          obtain ⟨v, h1, h2⟩ := fld_lookup hn rs ed
          exact .inl ⟨a, _, dx, fs, v, rfl, s1.ex _ _ hq, (T.obk c hc.1 hc.2.1).cl, T.noat c hc.1 f hc.2.2, h1, q1.here s1 v h2⟩
      · exact q1.elim
    · exact q1.elim
  · rename_i n
    split at q1
    · rename_i c ns vs ec
      split at q1
      · rename_i hc
        split at q1
        · rename_i d ed
          obtain ⟨x, rfl, hx⟩ := r1
          obtain ⟨x', g1, _, dx, fs, g3, g4, g5⟩ := s1.at_ n _ ec
          rw [hx] at g1
          cases g1
          obtain ⟨v, h1, h2⟩ := fld_lookup g4 g5 ed
          exact .inl ⟨x, _, dx, fs, v, rfl, g3, (T.obk c hc.1 hc.2.1).cl, T.noat c hc.1 f hc.2.2, h1, q1.here s1 v h2⟩
        · exact q1.elim
      · exact q1.elim
    · exact q1.elim
  · exact q1.elim

end
/-! ### in, not in -/
def inD (S : Store) (a b : A) : Option Bool := match a with
  | .val x => (match toPy x with
    | some p => if SeqAt.shaped p = true then (match lst? S b with
      | some ds => (match toPys ds with
        | some ps => if SeqAt.shaped (.list ps) = true then some (ps.any fun z => PyData.eqv z p) else none
        | none => none)
      | none => match tup? b with
        | some ds => (match toPys ds with
          | some ps => if SeqAt.shaped (.list ps) = true then some (ps.any fun z => PyData.eqv z p) else none
          | none => none)
        | none => none) else none
    | none => none)
  | .loc _ => none
def inS (a b : A) : Option Bool := match a, b with
  | .val (.str i), .val (.str j) => some (!(Builtin.Str.occurrences j i 0 j.length 1).isEmpty)
  | _, _ => none
def inA (S : Store) (a b : A) : Option Bool := match inS a b with
  | some k => some k
  | none => inD S a b
def hIn (a b : A) (S : Store) : Out A := match inA S a b with
  | some k => .ok (.val (.bl k)) S
  | none => .bad
def hNotIn (a b : A) (S : Store) : Out A := match inA S a b with
  | some k => .ok (.val (.bl (!k))) S
  | none => .bad
section
variable {X : Cx} {cl : Nat → Addr} {W : WX} {t : CtT} {e : Expr} {f : Str} {pos : Pos}
def rInT (K : PySem.W.Frag) (neg : Bool) : R2 := fun x y H Q => ∃ d ds, Dp K H x d ∧ Dp K H y (.tuple ds) ∧ SeqAt.shaped d = true ∧ SeqAt.shaped (.list ds) = true ∧ Q (.bl (if neg then !ds.any fun z => PyData.eqv z d else ds.any fun z => PyData.eqv z d)) H
theorem op_inT (hu : X.A.units + 65 < cLine) : OpR X (compareOp .In) (rInT X.K false) := by
  intro pins s σ H x y v u Q I rx ry h
  obtain ⟨d, ds, hd, he, sd, se, q⟩ := h
  obtain ⟨as, r1⟩ := Dp.reads I d x v hd rx
  obtain ⟨bs, r2⟩ := Dp.reads I (.tuple ds) y u he ry
  exact SeqAt.in_tuple_reads r2 r1 (SeqAt.canLay_of_shaped se) (SeqAt.canLay_of_shaped sd) (PyProof.Rows.room_in_shaped sd hu) ⟨.bl _, H, I, rfl, q⟩
theorem op_notInT (hu : X.A.units + 65 < cLine) : OpR X (compareOp .NotIn) (rInT X.K true) := by
  intro pins s σ H x y v u Q I rx ry h
  obtain ⟨d, ds, hd, he, sd, se, q⟩ := h
  obtain ⟨as, r1⟩ := Dp.reads I d x v hd rx
  obtain ⟨bs, r2⟩ := Dp.reads I (.tuple ds) y u he ry
  exact SeqAt.notIn_tuple_reads r2 r1 (SeqAt.canLay_of_shaped se) (SeqAt.canLay_of_shaped sd) (PyProof.Rows.room_in_shaped sd hu) ⟨.bl _, H, I, rfl, q⟩
theorem inD_cases {Hv H : Hp} {S : Store} {ad : List Addr} {x y : V} {a b : A} {k : Bool} (so : StOk X.K cl Hv H S ad) (rx : RepA X.K cl Hv ad x a) (ry : RepA X.K cl Hv ad y b) (h : inD S a b = some k) :
    ∃ d ds, Dp X.K H x d ∧ SeqAt.shaped d = true ∧ SeqAt.shaped (.list ds) = true ∧ (ds.any fun z => PyData.eqv z d) = k ∧ (Dp X.K H y (.list ds) ∨ Dp X.K H y (.tuple ds)) := by
  unfold inD at h
  split at h
  · rename_i dx
    split at h
    · rename_i p ep
      split at h
      · rename_i hs
        have dx := rep_dp (Rep.mono so.ex rx) p ep
        split at h
        · rename_i ds el
          obtain ⟨p1, xs, rfl, h1, rs⟩ := lst_at so ry el
          split at h
          · rename_i ps eps
            split at h
            · rename_i hs2
              cases h
              exact ⟨p, ps, dx, hs, hs2, rfl, .inl (.lst (.inl (.inl h1)) (reps_dp (rs.mono so.ex) eps))⟩
            · cases h
          · cases h
        · split at h
          · rename_i ds el
            obtain ⟨p1, xs, rfl, h1, rs⟩ := tup_at so ry el
            split at h
            · rename_i ps eps
              split at h
              · rename_i hs2
                cases h
                exact ⟨p, ps, dx, hs, hs2, rfl, .inr (.tup h1 (reps_dp (rs.mono so.ex) eps))⟩
              · cases h
            · cases h
          · cases h
      · cases h
    · cases h
  · cases h
theorem o_in (hu : X.A.units + 65 < cLine) : ∃ r, OpR X (compareOp .In) r ∧ RdO X.K cl W r hIn := by
  refine ⟨_, opOr op_in_str (opOr (op_inD hu) (op_inT hu)), fun σ Hv H S ad x y a b Q so rx ry q => ?_⟩
  unfold hIn at q
  split at q
  · rename_i k e
    unfold inA at e
    split at e
    · rename_i k' e'
      cases e
      unfold inS at e'
      split at e'
      · cases e'
        cases rx
        cases ry
        exact .inl ⟨_, _, rfl, rfl, q.here so _ .bl⟩
      · cases e'
    · obtain ⟨d, ds, h1, h2, h3, rfl, h4 | h4⟩ := inD_cases so rx ry e
      · exact .inr (.inl ⟨d, ds, h1, h4, h2, h3, q.here so _ .bl⟩)
      · exact .inr (.inr ⟨d, ds, h1, h4, h2, h3, q.here so _ .bl⟩)
  · exact q.elim
theorem o_notIn (hu : X.A.units + 65 < cLine) : ∃ r, OpR X (compareOp .NotIn) r ∧ RdO X.K cl W r hNotIn := by
  refine ⟨_, opOr op_notin_str (opOr (op_notInD hu) (op_notInT hu)), fun σ Hv H S ad x y a b Q so rx ry q => ?_⟩
  unfold hNotIn at q
  split at q
  · rename_i k e
    unfold inA at e
    split at e
    · rename_i k' e'
      cases e
      unfold inS at e'
      split at e'
      · cases e'
        cases rx
        cases ry
        exact .inl ⟨_, _, rfl, rfl, q.here so _ .bl⟩
      · cases e'
    · obtain ⟨d, ds, h1, h2, h3, rfl, h4 | h4⟩ := inD_cases so rx ry e
      · exact .inr (.inl ⟨d, ds, h1, h4, h2, h3, q.here so _ .bl⟩)
      · exact .inr (.inr ⟨d, ds, h1, h4, h2, h3, q.here so _ .bl⟩)
  · exact q.elim

/-! ### a < b < c -/
def eChain (h1 h2 : A → A → Store → Out A) (f g k : Ev A) : Ev A := fun env S => (f env S).bind fun a S1 => (g env S1).bind fun b S2 => (h1 a b S2).bind fun z S3 => match z with
  | .val (.bl true) => (k env S3).bind fun c S4 => h2 b c S4
  | .val (.bl false) => .ok (.val (.bl false)) S3
  | _ => .bad
variable {a b c : Expr} {op op' : CmpOp} {h1 h2 : A → A → Store → Out A} {fa fb fc : Ev A}
theorem rd_chain {r r' : R2} {ta tb tc : TE} (ra : RdE X.K cl W ta fa) (rb : RdE X.K cl W tb fb) (rc : RdE X.K cl W tc fc) (r1 : RdO X.K cl W r h1) (r2 : RdO X.K cl W r' h2) : RdE X.K cl W (tChain r r' ta tb tc) (eChain h1 h2 fa fb fc) := fun σ Hv H S ad env Q re so q =>
  ra σ Hv H S ad env _ re so (q.bind.mono fun a S1 Hv1 ad1 H1 e1 p1 s1 q1 v1 w1 =>
    rb σ Hv1 H1 S1 ad1 env _ (re.mono e1 p1) s1 (q1.bind.mono fun b S2 Hv2 ad2 H2 e2 p2 s2 q2 v2 w2 =>
      r1 σ Hv2 H2 S2 ad2 v1 v2 a b _ s2 (w1.mono e2 p2) w2 (q2.bind.mono fun z S3 Hv3 ad3 H3 e3 p3 s3 q3 v3 w3 => by
        split at q3
        · cases w3
          exact ⟨true, rfl, rc σ Hv3 H3 S3 ad3 env _ (((re.mono e1 p1).mono e2 p2).mono e3 p3) s3 (q3.bind.mono fun c S4 Hv4 ad4 H4 e4 p4 s4 q4 v4 w4 => r2 σ Hv4 H4 S4 ad4 v2 v4 b c Q s4 ((w2.mono e3 p3).mono e4 p4) w4 q4)⟩
        · cases w3
          exact ⟨false, rfl, q3.here s3 _ .bl⟩
        · exact q3.elim)))
theorem se_chain (o1 : ∃ r, OpR X (compareOp op) r ∧ RdO X.K cl W r h1) (o2 : ∃ r, OpR X (compareOp op') r ∧ RdO X.K cl W r h2) (ha : SE X cl W a fa) (hb : SE X cl W b fb) (hc : SE X cl W c fc) (hm : lastMarks [op, op'] [b, c] = false := by with_unfolding_all rfl) :
    SE X cl W (.Compare a [op, op'] [b, c] pos) (eChain h1 h2 fa fb fc) :=
  let ⟨_, pa, ra⟩ := ha.ex
  let ⟨_, pb, rb⟩ := hb.ex
  let ⟨_, pc, rc⟩ := hc.ex
  let ⟨_, p1, r1⟩ := o1
  let ⟨_, p2, r2⟩ := o2
  ⟨_, pe_chain p1 p2 pa pb pc hm, rd_chain ra rb rc r1 r2⟩
theorem st_chain (o1 : ∃ r, OpR X (compareOp op) r ∧ RdO X.K cl W r h1) (o2 : ∃ r, OpR X (compareOp op') r ∧ RdO X.K cl W r h2) (ha : SE X cl W a fa) (hb : SE X cl W b fb) (hc : SE X cl W c fc) (hm : lastMarks [op, op'] [b, c] = false := by with_unfolding_all rfl) :
    ST X cl W (.Compare a [op, op'] [b, c] pos) (tBool (eChain h1 h2 fa fb fc)) := by
  obtain ⟨_, pa, ra⟩ := ha.ex
  obtain ⟨_, pb, rb⟩ := hb.ex
  obtain ⟨_, pc, rc⟩ := hc.ex
  obtain ⟨_, p1, r1⟩ := o1
  obtain ⟨_, p2, r2⟩ := o2
  refine ⟨_, pt_chain p1 p2 pa pb pc hm, fun σ Hv H S ad env Q re so q => ?_⟩
  refine rd_chain ra rb rc r1 r2 σ Hv H S ad env _ re so (q.bind.mono fun z S1 Hv1 ad1 H1 e1 p1 s1 q1 v1 w1 => ?_)
  split at q1
  · cases w1
    exact ⟨_, rfl, q1.hereB s1⟩
  · exact q1.elim

/-! ### products: ints, texts, lists -/
def strMulOk (x : Str) (n : Int) : Bool := decide (0 ≤ n) && (decide (n ≤ 100000) && decide (x.length * n.toNat ≤ 100000))
def hMulA (a b : A) (S : Store) : Out A := match a, b with
  | .val (.str x), .val (.int n) => if strMulOk x n = true then .ok (.val (.str (Txt.mul x n))) S else .bad
  | .val (.lst ds), .val (.int n) => if 0 ≤ n ∧ n ≤ 100000 ∧ ds.length * n.toNat ≤ 100000 then .ok (.val (.lst (List.replicate n.toNat ds).flatten)) S else .bad
  | a, b => hMul a b S
theorem op_mulS : OpR X (binaryOp .Mult) (fun x y H Q => ∃ z n, x = .str z ∧ y = .int n ∧ strMulOk z n = true ∧ Q (.str (Txt.mul z n)) H) := by
  intro pins s σ H x y v u Q I rx ry h
  obtain ⟨z, n, rfl, rfl, hk, q⟩ := h
  obtain ⟨t, rfl⟩ := rx
  obtain ⟨t', rfl⟩ := ry
  obtain ⟨k1, k2⟩ := Bool.and_eq_true_iff.mp hk
  obtain ⟨k3, k4⟩ := Bool.and_eq_true_iff.mp k2
  have k1 := of_decide_eq_true k1
  have k3 := of_decide_eq_true k3
  have k4 := of_decide_eq_true k4
  refine SB.mul ⟨?_, fun h1 h2 => ?_, fun h1 h2 => ?_⟩ fun t' k => ⟨.str _, H, I.kept (t' := k) fun _ _ z => z, ⟨t', rfl⟩, q⟩
  · rw [decide_eq_false (by omega), decide_eq_false (by omega)]
    rfl
  · have hn : 0 < n := by omega
    have hz : z.length ≤ 100000 := by
      have : 1 ≤ n.toNat := by omega
      have := Nat.le_mul_of_pos_right z.length this
      omega
    have h3 : (92233720368547 : Int) ≤ (2 ^ 63 - 1) / n := by
      rw [Int.le_ediv_iff_mul_le hn]
      omega
    omega
  · unfold Builtin.Str.tooLong
    have h5 := sz_of k4
    simp
    omega
theorem rep_flat {K : PySem.W.Frag} {H : Hp} {vs : List V} {ds : List D} (r : Reps K cl H vs ds) : ∀ n : Nat, Reps K cl H (List.replicate n vs).flatten (List.replicate n ds).flatten
  | 0 => .nil
  | n + 1 => by
    rw [List.replicate_succ, List.replicate_succ, List.flatten_cons, List.flatten_cons]
    exact r.append (rep_flat r n)
theorem o_mulA : ∃ r, OpR X (binaryOp .Mult) r ∧ RdO X.K cl W r hMulA := by
  obtain ⟨r, h1, h2⟩ := o_mul (X := X) (cl := cl) (W := W)
  refine ⟨_, opOr op_mulS (opOr op_rep h1), fun σ Hv H S ad x y a b Q so rx ry q => ?_⟩
  unfold hMulA at q
  split at q
  · split at q
    · rename_i hk
      cases rx
      cases ry
      exact .inl ⟨_, _, rfl, rfl, hk, q.here so _ .str⟩
    · exact q.elim
  · rename_i ds n
    split at q
    · rename_i hk
      cases rx with
      | lst hq rs =>
        cases ry
        refine .inr (.inl ⟨_, n, _, rfl, rfl, so.ex _ _ hq, by omega, by omega, sz_of (by rw [rs.length]; exact hk.2.2), fun p hp => q.made so hp (.lst upd_same ((rep_flat rs _).mono (Ex.new (so.ex.nn hp))))⟩)
    · exact q.elim
  · exact .inr (.inr (h2 σ Hv H S ad x y a b Q so rx ry q))
end
end R


namespace R
open PySem L2 PySem.HandSPX

/-! ### an own exception class called by keywords -/
section
variable {M : Model} {A : Around} {E : Value → Shared → Prop} {h : Heap} {g : Array GenState} {d : Drawn} {t : Nat} {os : OsState}
variable {nm q : Str} {C N : Addr} {bs bm bmB : List Value} {hdct : Bool} {sn : List Str} {sub : List Value} {ab : Bool} {col : Option Bool} {dd : Option Addr} {k0 k1 k2 k3 k5 : Option Value} {B newId initId : String}
theorem check_new_kw (F : ExcBaseFacts B newId initId bmB) (hT : ∀ X : String, bm.contains (.type X) = bmB.contains (.type X)) {rest : List Value} {kw : List (Str × Value)} {Q : Unit → Shared → Prop}
    (hC : h.get? C = some (excClassObj nm q C N bs bm hdct sn sub ab col dd k0 k1 k2 k3 k5 newId)) (hq : Q () ⟨h, g, d, t, os⟩) : wpAny M A (checkBuiltinCall newId ⟨.ref C :: rest, kw⟩) Q E ⟨h, g, d, t, os⟩ := by
  have hcont : (Value.ref C :: bm).contains (.type B) = true := by rw [List.contains_cons, hT, F.hasB, Bool.or_true]
  have hstar := F.noStar
  simp only [checkBuiltinCall, F.newKind, F.newSplit, F.newRow]
  repeat (first | refine wpAny_loadPart_at hC ?_ | (refine wpAny_isSubtype_exc hC ?_; rw [hcont]) | refine wpAny_staticBase_exc hC ?_ | refine wpAny_madeBy_exc hC ?_ | simp only [bne_self_eq_false, Bool.false_eq_true, if_false] | wp_step)
  exact hq
end
section
variable {prog : Program} {w : World} {A : Around} {E : Value → Shared → Prop} {R : Result → Shared → Prop} {h : Heap} {g : Array GenState} {d : Drawn} {t : Nat} {os : OsState}
variable {nm q : Str} {C N : Addr} {bs bm bmB : List Value} {hdct : Bool} {sn : List Str} {sub : List Value} {ab : Bool} {col : Option Bool} {dd : Option Addr} {k0 k1 k2 k3 k5 : Option Value} {B newId initId : String}
theorem new_kw (F : ExcBaseFacts B newId initId bmB) (hT : ∀ X : String, bm.contains (.type X) = bmB.contains (.type X)) {rest : List Value} {kw : List (Str × Value)}
    (hC : h.get? C = some (excClassObj nm q C N bs bm hdct sn sub ab col dd k0 k1 k2 k3 k5 newId))
    (hq : R (.ok (.ret (.ref (h.objs.size + 1)))) ⟨(h.push { cls := .type "tuple", data := .seq rest.toArray }).push
      { cls := .ref C, data := .fields #[.ref h.objs.size, .none, .none, .none, .bool false, .none] }, g, d, t, os⟩) (hrest : rest.length ≤ sizeLine) :
    codeAny (model prog w) A (.builtin newId ⟨.ref C :: rest, kw⟩) R ⟨h, g, d, t, os⟩ := by
  have hends := F.ends
  have hcB : (Value.ref C :: bm).contains (.type B) = true := by rw [List.contains_cons, hT, F.hasB, Bool.or_true]
  have hcA : (Value.ref C :: bm).contains (.type "AttributeError") = false := by rw [List.contains_cons, hT, F.noAttr]; rfl
  have hcN : (Value.ref C :: bm).contains (.type "NameError") = false := by rw [List.contains_cons, hT, F.noName]; rfl
  refine codeAny_builtinAt F.entry ?_
  unfold Builtin.«BaseException.__new__»
  refine wpAt_bind ?_
  show wpAt _ _ _ (stack >>= _) _ _ _
  refine wpAt_bind (wpAt_stack fun p below => wpAt_of_wpAny ?_)
  wp_walk
  refine wpAt_of_wpAny ?_
  rw [F.owner]
  repeat (first | with_reducible refine wpAny_madeHere_exc F.canon hC ?_ | with_reducible refine wpAny_loadPart_at hC ?_ | (with_reducible refine wpAny_isSubtype_exc hC ?_; first | rw [hcB] | rw [hcA] | rw [hcN]) | wp_step)
  show R _ _
  rw [Heap.size_push]
  exact hq
theorem type_call_kw (F : ExcBaseFacts B newId initId bmB) (hT : ∀ X : String, bm.contains (.type X) = bmB.contains (.type X)) {rest : List Value} {kw : List (Str × Value)} {fI : Addr} {Q : Fin → Shared → Prop}
    (hC : h.get? C = some (excClassObj nm q C N bs bm hdct sn sub ab col dd k0 k1 k2 k3 k5 newId))
    (hi : W.Looks (model prog w) h (typeLookup (.ref C) "__init__") (some (.ref fI))) (hb : ∀ self, W.Looks (model prog w) h (bindSpecial (.ref fI) self) (.ref fI, [self])) (hrest : rest.length ≤ sizeLine)
    (hq : codeAny (model prog w) A (.call (.ref fI) ⟨.ref (h.objs.size + 1) :: rest, kw⟩)
      (fun r s' => match r with | .ok (.ret v) => v = .none ∧ Q (.done (.ret (.ref (h.objs.size + 1)))) s' | .ok _ => False | .error e => E e s')
      ⟨(h.push (W.kdv_tup rest)).push (excO C h.objs.size), g, d, t, os⟩) :
    wpAny (model prog w) A (Builtin.«type.__call__» ⟨.ref C :: rest, kw⟩) Q E ⟨h, g, d, t, os⟩ := by
  repeat (first | with_reducible refine wpAny_loadPart_at hC ?_ | with_reducible refine wpAny_madeBy_exc hC ?_ | wp_step)
  refine codeAny_call_builtin_code (Code.quiet_builtin _ F.quiet) (check_new_kw F hT hC ?_)
  refine new_kw F hT hC ?_ hrest
  show wpAny _ _ _ _ _ _
  have k : ∀ b o, h.get? b = some o → ((h.push (W.kdv_tup rest)).push (excO C h.objs.size)).get? b = some o := fun b o e => Heap.get?_push_of_some _ (Heap.get?_push_of_some _ e)
  have hC₁ := k _ _ hC
  have hget : ((h.push (W.kdv_tup rest)).push (excO C h.objs.size)).get? (h.objs.size + 1) = some (excO C h.objs.size) := by heap_get
  have hcC : (Value.ref C :: bm).contains (.ref C) = true := by simp
  have i1 := hi.keeps k
  have b1 := (hb (.ref (h.objs.size + 1))).keeps k
  unfold isInstance
  repeat (first | with_reducible refine wpAny_loadPart_at hget ?_ | (with_reducible refine wpAny_isSubtype_exc hC₁ ?_; rw [hcC]) | wp_step)
  show wpAny _ _ (typeLookup (.ref C) _) _ _ _
  refine i1.at ?_
  refine wpAny_holding (wpAny_bind (b1.at ?_))
  refine wpAny_bind (wpAny_call (codeAny_mono hq fun r s' z => ?_))
  rcases r with e | (v | _ | _ | _) <;> first | exact z | exact z.elim | skip
  obtain ⟨rfl, z⟩ := z
  first
    | exact wpAny_pure (wpAny_pure z)
    | (wp_walk; exact z)
theorem check_type_call_kw {M : Model} {rest : List Value} {kw : List (Str × Value)} {Q : Unit → Shared → Prop} (hC : h.get? C = some (excClassObj nm q C N bs bm hdct sn sub ab col dd k0 k1 k2 k3 k5 newId))
    (hq : Q () ⟨h, g, d, t, os⟩) : wpAny M A (checkBuiltinCall "type.__call__" ⟨.ref C :: rest, kw⟩) Q E ⟨h, g, d, t, os⟩ := by
  have f3 := tc_sub
  have hT : (⟨h, g, d, t, os⟩ : Shared).TypeIs (.ref C) "type" := ⟨_, hC, rfl⟩
  simp only [checkBuiltinCall, tc_kind, tc_split]
  repeat (any_goals (first | assumption | with_reducible refine wpAny_loadPart_at hC ?_ | with_reducible refine wpAny_onRaise ?_ | with_reducible refine wpAny_map ?_ | wp_step))
theorem call_kw (F : ExcBaseFacts B newId initId bmB) (hT : ∀ X : String, bm.contains (.type X) = bmB.contains (.type X)) {rest : List Value} {kw : List (Str × Value)} {fI : Addr}
    (hC : h.get? C = some (excClassObj nm q C N bs bm hdct sn sub ab col dd k0 k1 k2 k3 k5 newId))
    (hi : W.Looks (model prog w) h (typeLookup (.ref C) "__init__") (some (.ref fI))) (hb : ∀ self, W.Looks (model prog w) h (bindSpecial (.ref fI) self) (.ref fI, [self])) (hrest : rest.length ≤ sizeLine)
    (hq : codeAny (model prog w) (A.under (.builtin "type.__call__" ⟨.ref C :: rest, kw⟩)) (.call (.ref fI) ⟨.ref (h.objs.size + 1) :: rest, kw⟩) (W.InitBack (h.objs.size + 1) R)
      ⟨(h.push (W.kdv_tup rest)).push (excO C h.objs.size), g, d, t, os⟩) :
    codeAny (model prog w) A (.call (.ref C) ⟨rest, kw⟩) R ⟨h, g, d, t, os⟩ := by
  have f1 := tc_lookup
  have f2 := tc_bind (.ref C)
  have hTy : (⟨h, g, d, t, os⟩ : Shared).TypeIs (.ref C) "type" := ⟨_, hC, rfl⟩
  refine codeAny_of_tree ?_
  show wpAny _ _ (callAny (.ref C) _) _ _ _
  repeat (any_goals (first | assumption | with_reducible refine wpAny_loadPart_at hC ?_ | wp_step))
  refine ⟨rfl, ?_⟩
  refine codeAny_call_builtin_at (Code.quiet_builtin _ (by decide +kernel)) entry_typeCall (check_type_call_kw hC (type_call_kw F hT hC hi hb hrest ?_))
  refine codeAny_mono hq fun r s' z => ?_
  rcases r with e | (v | _ | _ | _) <;> exact z
end

theorem paired_ix {α β : Type} {R : α → β → Prop} : ∀ {xs : List α} {ys : List β}, Paired R xs ys → ∀ i : Nat, (∃ x y, xs[i]? = some x ∧ ys[i]? = some y ∧ R x y) ∨ (xs[i]? = none ∧ ys[i]? = none)
  | _, _, .nil, i => .inr ⟨by simp, by simp⟩
  | _, _, .cons r _, 0 => .inl ⟨_, _, rfl, rfl, r⟩
  | _, _, .cons _ t, i + 1 => by simpa using paired_ix t i
theorem paired_perm {α β : Type} {R : α → β → Prop} {xs : List α} {ys : List β} (h : Paired R xs ys) : ∀ p : List Nat, Paired R (permL p xs) (permL p ys)
  | [] => .nil
  | i :: p => by
    rcases paired_ix h i with ⟨x, y, e1, e2, r⟩ | ⟨e1, e2⟩
    · have a : permL (i :: p) xs = x :: permL p xs := by unfold permL; rw [List.filterMap_cons, e1]
      have b : permL (i :: p) ys = y :: permL p ys := by unfold permL; rw [List.filterMap_cons, e2]
      rw [a, b]
      exact .cons r (paired_perm h p)
    · have a : permL (i :: p) xs = permL p xs := by unfold permL; rw [List.filterMap_cons, e1]
      have b : permL (i :: p) ys = permL p ys := by unfold permL; rw [List.filterMap_cons, e2]
      rw [a, b]
      exact paired_perm h p
theorem repAs_paired {K : PySem.W.Frag} {cl : Nat → Addr} {Hv : Hp} {ad : List Addr} : ∀ {vs : List V} {as : List A}, RepAs K cl Hv ad vs as → Paired (RepA K cl Hv ad) vs as
  | _, _, .nil => .nil
  | _, _, .cons a b => .cons a (repAs_paired b)
theorem paired_repAs {K : PySem.W.Frag} {cl : Nat → Addr} {Hv : Hp} {ad : List Addr} : ∀ {vs : List V} {as : List A}, Paired (RepA K cl Hv ad) vs as → RepAs K cl Hv ad vs as
  | _, _, .nil => .nil
  | _, _, .cons a b => .cons a (paired_repAs b)
theorem RepAs.perm {K : PySem.W.Frag} {cl : Nat → Addr} {Hv : Hp} {ad : List Addr} {vs : List V} {as : List A} (h : RepAs K cl Hv ad vs as) (p : List Nat) : RepAs K cl Hv ad (permL p vs) (permL p as) := paired_repAs (paired_perm (repAs_paired h) p)

/-! ### C(k = e, ..) as a value -/
def tOexK (C : Addr) (n : Nat) (p : List Nat) (sp : Sp) (tk : TA) : TE := fun σ H Q => tk σ H fun vs H1 => vs.length = n ∧ ∀ a, H1 a = none → sp (.ref a :: permL p vs) (upd H1 a (exo a C none)) (fun v H2 => v = .non ∧ Q (.ref a) H2) (fun _ _ _ => False)
section
variable {X : Cx} {kws : List Keyword} {ks : List Str} {pm : List Nat} {tk : TA} {p pos : Pos} {x : Str} {C fI : Addr} {k : Nat} {fd : FuncData} {ps : List Str} {sp : Sp} {W : WX}
theorem run_oexK {pins : List (Addr × Obj)} {σ : St} {H1 : Hp} {s1 : Shared} {Q : VK} {us : List Value} {vs : List V} (T : OexC X.K C) (iC : PySem.W.findIn X.K (.ref C) "__init__" = some (some (.ref fI))) (tI : PySem.W.typeIn X.K (.ref fI) = some (.type "function"))
    (F1 : FnOk X.prog X.w X.K X.mg X.base (L2.CX X.prog X.w) k fI fd ps sp) (hr : Room (k + 1) X.A) (hb : KwB fd ps (ks, pm)) (I1 : Inv X pins σ H1 s1) (r1 : Vals vs us) (hz : vs.length = ks.length)
    (q1 : ∀ a, H1 a = none → sp (.ref a :: permL pm vs) (upd H1 a (exo a C none)) (fun v H2 => v = .non ∧ Q (.ref a) H2) (fun _ _ _ => False)) : wpAny (model X.prog X.w) X.A (call (.ref C) [] (ks.zip us)) (EP X pins σ Q) X.xe s1 := by
  obtain ⟨nm, q, N, bs, bm, sn, sub, ab, col, dd, k0, k1, k2, k3, k5, hC, hbm⟩ := T.cls
  obtain ⟨hp, g, dr, tk, os⟩ := s1
  have hsz : hp.objs.size ≤ hp.objs.size + 1 := Nat.le_succ _
  have hn : H1 (hp.objs.size + 1) = none := I1.hok.fresh hsz
  have hq := q1 (hp.objs.size + 1) hn
  have kk : ∀ b o, hp.get? b = some o → ((hp.push (PySem.W.kdv_tup [])).push (PySem.HandSPX.excO C hp.objs.size)).get? b = some o := fun b o e => Heap.get?_push_of_some _ (Heap.get?_push_of_some _ e)
  have hget : ((hp.push (PySem.W.kdv_tup [])).push (PySem.HandSPX.excO C hp.objs.size)).get? (hp.objs.size + 1) = some (PySem.HandSPX.excO C hp.objs.size) := by heap_get
  have I2 : Inv X pins σ (upd H1 (hp.objs.size + 1) (exo (hp.objs.size + 1) C none)) ⟨(hp.push (PySem.W.kdv_tup [])).push (PySem.HandSPX.excO C hp.objs.size), g, dr, tk, os⟩ :=
    I1.laid (t' := tk) (a := hp.objs.size + 1) (o := exo (hp.objs.size + 1) C none) (h' := (hp.push (PySem.W.kdv_tup [])).push (PySem.HandSPX.excO C hp.objs.size)) kk hsz (exo_ok hget)
  have r2 : Vals (V.ref (hp.objs.size + 1) :: permL pm vs) (Value.ref (hp.objs.size + 1) :: permL pm us) := .cons rfl (paired_perm r1 pm)
  have hus : us.length = ks.length := by rw [← Paired.length r1]; exact hz
  have hbb := hb ⟨(hp.push (PySem.W.kdv_tup [])).push (PySem.HandSPX.excO C hp.objs.size), g, dr, tk, os⟩ (Value.ref (hp.objs.size + 1)) us hus
  refine wpAny_call (call_kw F.excBase_ValueError (fun Y => PySem.HandSPX.refsVE_contains Y bm hbm) (I1.kIn _ _ hC) (PySem.W.looks_findIn I1.kIn iC) (fun self => PySem.W.bind_fn I1.kIn self tI) (by decide)
    (codeAny_mono (F1.run _ X.stack _ _ ⟨[Value.ref (hp.objs.size + 1)], ks.zip us⟩ (Value.ref (hp.objs.size + 1) :: permL pm us) _ _ (fun _ _ _ => False) (hr.make C [] (ks.zip us)) (I2.env0.make C [] (ks.zip us)) hbb r2 hq) fun r s' hq' => ?_))
  cases r with
  | error er => exact (passL (X := X) pins σ _ _ er s' I2 hq')
  | ok fl =>
    cases fl with
    | ret u =>
      obtain ⟨v, H2, J, rv, ev, q2⟩ := I2.after hq'
      subst ev
      exact ⟨rv, ⟨.ref (hp.objs.size + 1), H2, J, rfl, q2⟩⟩
    | next => exact False.elim hq'
    | brk => exact False.elim hq'
    | cont => exact False.elim hq'
theorem pe_oexK (T : OexC X.K C) (iC : PySem.W.findIn X.K (.ref C) "__init__" = some (some (.ref fI))) (tI : PySem.W.typeIn X.K (.ref fI) = some (.type "function"))
    (F1 : FnOk X.prog X.w X.K X.mg X.base (L2.CX X.prog X.w) k fI fd ps sp) (hr : Room (k + 1) X.A) (hb : KwB fd ps (ks, pm)) (hg : Gl X x) (hm : X.mg x = some (.ref C)) (hkw : PK X kws tk)
    (hall : (backToKw pos (keywordEach kws X.env)).all (·.1.isSome) = true := by rfl) (hks : (backToKw pos (keywordEach kws X.env)).filterMap (·.1) = ks := by rfl)
    (hdb : (x == ("__debug__" : Str)) = false := by decide) (hpl : ((backTo pos (starEach [] X.env)).any (·.1) || (backToKw pos (keywordEach kws X.env)).any (·.1.isNone)) = false := by rfl) :
    PE X (.Call (.Name x p) [] kws pos) (tOexK C ks.length pm sp tk) := by
  refine ⟨fun pins s σ H Q I h => ?_⟩
  refine wpAny_Call_Name_kw (ld_glob I hg hm ?_ hdb)
  refine PySem.W.callWith_KW0 (h₀ := X.base) I.ok.mod.kin T.kC hall (thn (hkw.run pos pins s σ H _ I h) fun us s1 ⟨vs, H1, I1, r1, hz, q1⟩ => ⟨I1.kIn, ?_⟩) hpl
  rw [hks]
  exact run_oexK T iC tI F1 hr hb I1 r1 hz q1
end
structure SK (X : Cx) (cl : Nat → Addr) (W : WX) (kws : List Keyword) (f : Ev (List A)) : Prop where
  ex : ∃ t, PK X kws t ∧ RdA X.K cl W t f
def hMkK (c : Nat) (ns : List Str) (n : Nat) (p : List Nat) (as : List A) (S : Store) : Out A := if as.length = n then hMkX c ns (permL p as) S else .bad
section
variable {X : Cx} {cl : Nat → Addr} {W : WX} {kws : List Keyword} {nm : Option Str} {p pos kpos : Pos} {x : Str} {c : Nat} {ns ks : List Str} {pm : List Nat} {kbs : List (List Str × List Nat)} {f : Ev (List A)}
theorem sk_nil : SK X cl W [] eNil := ⟨_, pk_nil, fun σ Hv H S ad env Q re so h => h.here so [] .nil⟩
theorem sk_cons {e : Expr} {f : Ev A} {g : Ev (List A)} (ha : SE X cl W e f) (hr : SK X cl W kws g) : SK X cl W (⟨nm, e, kpos⟩ :: kws) (eCons f g) := by
  obtain ⟨_, pa, ra⟩ := ha.ex
  obtain ⟨_, pb, rb⟩ := hr.ex
  refine ⟨_, pk_cons pa pb, fun σ Hv H S ad env Q re so q => ?_⟩
  exact ra σ Hv H S ad env _ re so (q.bind.mono fun a S1 Hv1 ad1 H1 e1 p1 s1 q1 v1 r1 =>
    rb σ Hv1 H1 S1 ad1 env _ (re.mono e1 p1) s1 (q1.bind.mono fun as S2 Hv2 ad2 H2 e2 p2 s2 q2 vs r2 => q2.here s2 (v1 :: vs) (.cons (r1.mono e2 p2) r2)))
theorem se_mkk {n : Nat} (F : ExR X.prog X.w X.K X.mg X.base (cl c) ns kbs) (i : Nat) (hr : Room 2 X.A) (hm : X.mg x = some (.ref (cl c))) (ha : SK X cl W kws f) (hi : kbs[i]? = some (ks, pm) := by rfl) (hn : ks.length = n := by rfl) (hg : Gl X x := by rfl)
    (hall : (backToKw pos (keywordEach kws X.env)).all (·.1.isSome) = true := by rfl) (hks : (backToKw pos (keywordEach kws X.env)).filterMap (·.1) = ks := by rfl)
    (hdb : (x == ("__debug__" : Str)) = false := by decide) (hpl : ((backTo pos (starEach [] X.env)).any (·.1) || (backToKw pos (keywordEach kws X.env)).any (·.1.isNone)) = false := by rfl) :
    SE X cl W (.Call (.Name x p) [] kws pos) (eApp (hMkK c ns n pm) f) := by
  subst hn
  obtain ⟨fI, fd, ps, T, iC, tI, hb, hps, F1, hkb⟩ := F.ex
  obtain ⟨_, pa, ra⟩ := ha.ex
  refine ⟨_, pe_oexK T iC tI F1 hr (hkb _ (List.mem_of_getElem? hi)) hg hm pa hall hks hdb hpl, fun σ Hv H S ad env Q re so q => ?_⟩
  refine ra σ Hv H S ad env _ re so (q.bind.mono fun as S1 Hv1 ad1 H1 e1 p1 s1 q1 vs r1 => ?_)
  unfold hMkK at q1
  by_cases hn : as.length = ks.length
  · rw [if_pos hn] at q1
    have r2 := r1.perm pm
    unfold hMkX at q1
    split at q1
    · rename_i ds ed
      have rs := vals_rep r2 ed
      split at q1
      · rename_i hl
        refine ⟨by rw [r1.length, hn], fun a h1 => ⟨a, permL pm vs, rfl, by rw [rs.length]; exact hl, upd_same, fun dx h2 h3 => ⟨rfl, mkx_end s1 rs hl F.nd h1 h2 h3 q1⟩⟩⟩
      · exact q1.elim
    · exact q1.elim
  · rw [if_neg hn] at q1
    exact q1.elim
/-- C(): an own exception class without own __init__ -/
theorem pe_exc0 {C : Addr} {bmB : List Value} {B newId initId : String} (F : ExcBaseFacts B newId initId bmB) (q : PySem.W.excIn X.K C bmB newId = true) (gC : X.mg x = some (.ref C)) (kC : PySem.W.keepIn X.K (.ref C) = true) (hg : Gl X x)
    (hdb : (x == ("__debug__" : Str)) = false := by decide) :
    PE X (.Call (.Name x p) [] [] pos) (fun σ H Q => ∀ a, H a = none → Q (.ref a) (upd H a (ExO (.ref C) a))) := by
  refine ⟨fun pins s σ H Q I h => ?_⟩
  refine wpAny_Call_Name_kw (ld_glob I hg gC ?_ hdb)
  refine PySem.W.callWith_K0 I.kIn kC ?_
  show wpAny _ _ (call (.ref C) []) _ _ _
  obtain ⟨bm, N, nm, qn, bs, hdct, sn, sub, ab, col, dd, k0, k1, k2, k3, k5, mN, hC, hN, hni, T⟩ := exc_obj I.kIn q
  refine wpAny_call_exc_subT F T hC hN hni (fun h' a hm => ?_) (by decide)
  have hn : H a = none := I.hok.gone hm.new
  obtain ⟨t, ht, _, _⟩ := hm.there
  exact ⟨.ref a, upd H a (ExO (.ref C) a), I.laidN hm.keeps hm.new hn (exO_ok ht ⟨rfl, rfl⟩ rfl rfl rfl (show 4 < 6 by decide)), rfl, h a hn⟩
structure Ex0 (K : PySem.W.Frag) (C : Addr) : Prop where
  q : PySem.W.excIn K C veTail "ValueError.__new__" = true
  kC : PySem.W.keepIn K (.ref C) = true
def ex0B (K : PySem.W.Frag) (C : Addr) : Bool := PySem.W.excIn K C veTail "ValueError.__new__" && PySem.W.keepIn K (.ref C)
theorem ex0B_ok {K : PySem.W.Frag} {C : Addr} (h : ex0B K C = true) : Ex0 K C := ⟨(Bool.and_eq_true_iff.mp h).1, (Bool.and_eq_true_iff.mp h).2⟩
theorem se_mk0 (F0 : Ex0 X.K (cl c)) (hm : X.mg x = some (.ref (cl c))) (hg : Gl X x := by rfl) (hdb : (x == ("__debug__" : Str)) = false := by decide) :
    SE X cl W (.Call (.Name x p) [] [] pos) (eC (.exc c [] [])) := by
  refine ⟨_, pe_exc0 F.excBase_ValueError F0.q hm F0.kC hg hdb, fun σ Hv H S ad env Q re so q a ha => ?_⟩
  refine Pst.made so ha q (.exc0 upd_same fun h hh => ?_)
  obtain ⟨oe, vs, h1, h2, h3, _⟩ := hh
  exact ⟨oe, vs, h1, h2, h3⟩
end
end R


namespace R
open PySem L2

/-! ### {k: v, ..} -/
def evPairs : List (Ev A × Ev A) → Ev (List (A × A))
  | [], _, S => .ok [] S
  | (f, g) :: r, env, S => (f env S).bind fun a S1 => (g env S1).bind fun b S2 => (evPairs r env S2).bind fun l S3 => .ok ((a, b) :: l) S3
def keyOf : A → Option Key
  | .val (.int i) => some (.inl i)
  | .val (.str x) => some (.inr x)
  | _ => none
def keys? : List (A × A) → Option (List (Key × D))
  | [] => some []
  | (k, .val d) :: r => match keyOf k, keys? r with
    | some k, some l => some ((k, d) :: l)
    | _, _ => none
  | _ :: _ => none
def hDisp (n : Nat) (l : List (A × A)) (S : Store) : Out A := match keys? l, S[n]? with
  | some kds, some (some (.dic [] [])) => if (kds.map (·.1)).Nodup ∧ kds.length ≤ 15 then .ok (.loc n) (S.set n (some (.dic (kds.map fun p => keyD p.1) (kds.map (·.2))))) else .bad
  | _, _ => .bad
def eDisp (ps : List (Ev A × Ev A)) : Ev A := fun env S => (evPairs ps env (S ++ [some (.dic [] [])])).bind (hDisp S.length)

theorem mergeK_nodup : ∀ (kvs acc : List (Key × V)), ((acc ++ kvs).map (·.1)).Nodup → mergeK acc kvs = acc ++ kvs
  | [], acc, _ => by simp [mergeK]
  | p :: r, acc, h => by
    have h1 : (acc.any fun kv => decide (kv.1 = p.1)) = false := by
      rw [List.any_eq_false]
      intro x hx
      rw [List.map_append, List.nodup_append] at h
      have := h.2.2 x.1 (List.mem_map_of_mem hx) p.1 (by simp)
      simpa using this
    show mergeK (putK acc p.1 p.2) r = _
    unfold putK
    rw [h1, if_neg Bool.false_ne_true, mergeK_nodup r _ (by simpa using h)]
    simp
def RPs (K : PySem.W.Frag) (cl : Nat → Addr) (Q : List (V × V) → Hp → Prop) : List (A × A) → Store → Hp → List Addr → Hp → Prop := fun l _ Hv' ad' H' => ∀ ps, Paired (fun (p : V × V) (a : A × A) => RepA K cl Hv' ad' p.1 a.1 ∧ RepA K cl Hv' ad' p.2 a.2) ps l → Q ps H'
def RdP (K : PySem.W.Frag) (cl : Nat → Addr) (W : WX) (trs : List (TE × TE)) (f : Ev (List (A × A))) : Prop := ∀ (σ : St) (Hv H : Hp) (S : Store) (ad : List Addr) (env : Env) (Q : List (V × V) → Hp → Prop), RepEnv K cl Hv ad σ env → StOk K cl Hv H S ad → Pst K cl W σ Hv ad (RPs K cl Q) (f env S) → tPairs trs σ H Q
structure SP (X : Cx) (cl : Nat → Addr) (W : WX) (pos : Pos) (keys : List (Option Expr)) (values : List Expr) (ps : List (Ev A × Ev A)) : Prop where
  ex : ∃ t, PPs X pos keys values t ∧ RdP X.K cl W t (evPairs ps)
theorem paired_mono {α β : Type} {R R' : α → β → Prop} (k : ∀ a b, R a b → R' a b) : ∀ {xs : List α} {ys : List β}, Paired R xs ys → Paired R' xs ys
  | _, _, .nil => .nil
  | _, _, .cons a b => .cons (k _ _ a) (paired_mono k b)
section
variable {X : Cx} {cl : Nat → Addr} {W : WX} {pos : Pos} {keys : List (Option Expr)} {values : List Expr} {ps : List (Ev A × Ev A)}
theorem sp_nil : SP X cl W pos [] [] [] := ⟨_, pps_nil, fun σ Hv H S ad env Q re so h => h.here so [] .nil⟩
theorem sp_cons {k v : Expr} {f g : Ev A} (hk : SE X cl W k f) (hv : SE X cl W v g) (hr : SP X cl W pos keys values ps) : SP X cl W pos (some k :: keys) (v :: values) ((f, g) :: ps) := by
  obtain ⟨_, pk, rk⟩ := hk.ex
  obtain ⟨_, pv, rv⟩ := hv.ex
  obtain ⟨_, pr, rr⟩ := hr.ex
  refine ⟨_, pps_cons pk pv pr, fun σ Hv H S ad env Q re so q => ?_⟩
  exact rk σ Hv H S ad env _ re so (q.bind.mono fun a S1 Hv1 ad1 H1 e1 p1 s1 q1 v1 r1 =>
    rv σ Hv1 H1 S1 ad1 env _ (re.mono e1 p1) s1 (q1.bind.mono fun b S2 Hv2 ad2 H2 e2 p2 s2 q2 v2 r2 =>
      rr σ Hv2 H2 S2 ad2 env _ ((re.mono e1 p1).mono e2 p2) s2 (q2.bind.mono fun l S3 Hv3 ad3 H3 e3 p3 s3 q3 vs r3 =>
        q3.here s3 ((v1, v2) :: vs) (.cons ⟨(r1.mono e2 p2).mono e3 p3, r2.mono e3 p3⟩ r3))))
theorem keys_rep {K : PySem.W.Frag} {Hv : Hp} {ad : List Addr} : ∀ {ps : List (V × V)} {l : List (A × A)} {kds : List (Key × D)}, Paired (fun (p : V × V) (a : A × A) => RepA K cl Hv ad p.1 a.1 ∧ RepA K cl Hv ad p.2 a.2) ps l → keys? l = some kds →
    ∃ kvs : List (Key × V), ps = kvs.map (fun kv => (kV kv.1, kv.2)) ∧ kvs.map (·.1) = kds.map (·.1) ∧ Reps K cl Hv (kvs.map (·.2)) (kds.map (·.2))
  | _, _, kds, .nil, e => by
    cases e
    exact ⟨[], rfl, rfl, .nil⟩
  | _, _, kds, .cons (a := (v1, v2)) (b := (k, .loc n)) r t, e => by
    unfold keys? at e
    cases e
  | _, _, kds, .cons (a := (v1, v2)) (b := (k, .val d)) r t, e => by
    unfold keys? at e
    split at e
    · rename_i k' l' ek el
      cases e
      obtain ⟨kvs, h1, h2, h3⟩ := keys_rep t el
      have hk : v1 = kV k' := by
        have r1 := r.1
        dsimp only at r1
        unfold keyOf at ek
        split at ek
        · cases ek
          cases r1
          rfl
        · cases ek
          cases r1
          rfl
        · cases ek
      refine ⟨(k', v2) :: kvs, by rw [h1, hk]; rfl, by rw [List.map_cons, List.map_cons, h2], .cons r.2 h3⟩
    · cases e
theorem se_disp (h : SP X cl W pos keys values ps) (hall : keys.all (·.isSome) = true := by rfl) (hl : keys.length = values.length := by rfl) (h0 : keys ≠ [] := by exact List.cons_ne_nil _ _) (h15 : keys.length ≤ 15 := by decide) :
    SE X cl W (.Dict keys values pos) (eDisp ps) := by
  obtain ⟨trs, pp, rp⟩ := h.ex
  refine ⟨_, pe_disp pp hall hl h0 h15, fun σ Hv H S ad env Q re so q p hp => ?_⟩
  have so1 := so.alloc (c := .dic [] []) (o := .dK []) hp ⟨[], upd_same, rfl, .nil⟩
  have pre : Pre ad (ad ++ [p]) := ⟨[p], rfl⟩
  have hat : (ad ++ [p])[S.length]? = some p := by rw [← so.len]; simp
  have q0 : Pst X.K cl W σ Hv (ad ++ [p]) (RA X.K cl Q) (eDisp ps env S) := by
    cases e : eDisp ps env S with
    | ok a S' =>
      rw [e] at q
      exact fun Hv' ad' H' e1 p1 s1 => q Hv' ad' H' e1 (pre.trans p1) s1
    | exc c ns vs S' =>
      rw [e] at q
      exact fun Hv' ad' H' dd e1 p1 s1 => q Hv' ad' H' dd e1 (pre.trans p1) s1
    | bad =>
      rw [e] at q
      exact q
  refine rp σ Hv _ _ (ad ++ [p]) env _ (re.mono (Ex.refl _) pre) so1 (q0.bind.mono fun l S2 Hv2 ad2 H2 e2 p2 s2 q2 pl rl => ?_)
  unfold hDisp at q2
  split at q2
  · rename_i kds ek es
    split at q2
    · rename_i hc
      obtain ⟨kvs, h1, h2, h3⟩ := keys_rep rl ek
      obtain ⟨a, ha, hva, hat2⟩ := s2.at_ _ _ es
      rw [p2.get hat] at ha
      cases ha
      have hnd : (kvs.map (·.1)).Nodup := by rw [h2]; exact hc.1
      have hlen : kvs.length ≤ 15 := by
        have := congrArg List.length h2
        rw [List.length_map, List.length_map] at this
        omega
      have hd : H2 p = some (.dK []) := by
        obtain ⟨kv, z1, z2, z3⟩ := hat2
        cases kv with
        | nil => exact z1
        | cons x y => cases z2
      refine ⟨hd, kvs, h1, hlen, ?_⟩
      have em : mergeK [] kvs = kvs := mergeK_nodup kvs [] hnd
      rw [em]
      refine q2 Hv2 ad2 _ (Ex.refl _) (Pre.refl _) (s2.write es (p2.get hat) ⟨kvs, upd_same, ?_, h3⟩) (.ref p) ⟨p, rfl, p2.get hat⟩
      rw [show (kvs.map fun p => keyD p.1) = (kvs.map (·.1)).map keyD from by rw [List.map_map]; rfl, h2, List.map_map]
      rfl
    · exact q2.elim
  · exact q2.elim
end
end R


namespace R
open PySem L2
/-! ### a comprehension's list as a place of the store -/
def lcEndN (n : Nat) (S : Store) : Out A := match S[n]? with
  | some (some (.lst ds)) => .ok (.loc n) (S.take (n + 1))
  | _ => .bad
def eLcN (vs : List Nat) (src : Ev (List D)) (g : A → Ev Env) (tt : Ev Bool) (te : Ev A) : Ev A := fun env S => (src env S).bind fun ds S1 =>
  (lcD S1.length g tt te (wipeE env vs) ds (S1 ++ [some (.lst [])])).bind fun _ S2 => lcEndN S1.length S2
section
variable {X : Cx} {cl : Nat → Addr} {W : WX} {elt tg iter : Expr} {ifs : List Expr} {scope : Scope} {own : List (Str × Nat)} {pos : Pos} {src : Ev (List D)} {g : A → Ev Env} {tt : Ev Bool} {te : Ev A}
theorem rd_lcN : RdE X.K cl W (tLc (cI X.K cl W src) (cGx X.K cl (own.map (·.2)) g) (cT X.K cl WF tt) (cE X.K cl WF te) (own.map (·.2))) (eLcN (own.map (·.2)) src g tt te) := fun σ Hv H S ad env Q re so q => by
  refine ⟨Hv, S, ad, env, re, so, q.bind.mono fun ds S1 Hv1 ad1 H1 e1 p1 s1 q1 J wk Dd hD => ?_⟩
  have re1 := re.mono e1 p1
  have q2 := Pst.bindK q1
  have hpre : Pre ad1 (ad1 ++ [Dd]) := ⟨[Dd], rfl⟩
  have hDn : (ad1 ++ [Dd])[S1.length]? = some Dd := by rw [← s1.len]; simp
  refine ⟨fun i m H' => m = ds.length - i ∧ i ≤ ds.length ∧ ∃ Hv' S' ad', Ex Hv1 Hv' ∧ Pre (ad1 ++ [Dd]) ad' ∧ StOk X.K cl Hv' H' S' ad' ∧ Pst X.K cl W σ Hv' ad' (fun _ S2 Hv' _ _ => Pst X.K cl W σ Hv' ad1 (RA X.K cl Q) (lcEndN S1.length S2)) (lcD S1.length g tt te (wipeE env (own.map (·.2))) (ds.drop i) S'),
    ⟨ds.length, by omega, Nat.zero_le _, Hv1, _, ad1 ++ [Dd], Ex.refl _, Pre.refl _, s1.alloc (c := .lst []) hD ⟨[], upd_same, .nil⟩, q2.up (Ex.refl _) hpre⟩, ?_⟩
  rintro i m H2 ⟨rfl, hi, Hv2, S2, ad2, e2, p2, s2, q3⟩
  have hD2 : ad2[S1.length]? = some Dd := p2.get hDn
  by_cases hlt : i < ds.length
  · obtain ⟨d, hd⟩ : ∃ d, ds[i]? = some d := ⟨ds[i], List.getElem?_eq_getElem hlt⟩
    obtain ⟨go, yl⟩ := (wk i Hv2 H2 e2 s2.ex).2 d hd
    have edrop : ds.drop i = d :: ds.drop (i + 1) := by
      rw [List.drop_eq_getElem_cons hlt]
      congr 1
      rw [List.getElem?_eq_getElem hlt] at hd
      exact Option.some.inj hd
    rw [edrop] at q3
    refine .inr ⟨go, fun H' => ∃ Hv' S' ad', Ex Hv1 Hv' ∧ Pre (ad1 ++ [Dd]) ad' ∧ StOk X.K cl Hv' H' S' ad' ∧ Pst X.K cl W σ Hv' ad' (fun _ S2 Hv' _ _ => Pst X.K cl W σ Hv' ad1 (RA X.K cl Q) (lcEndN S1.length S2)) (lcD S1.length g tt te (wipeE env (own.map (·.2))) (ds.drop (i + 1)) S'),
      fun H' z => ⟨ds.length - (i + 1), by omega, rfl, hlt, z⟩, fun x H' hy => ?_⟩
    obtain ⟨Hv3, e3, s3, r3⟩ := yl x H' hy S2 ad2 s2
    have pre02 : Pre ad1 ad2 := hpre.trans p2
    have rew : RepEnv X.K cl Hv3 ad2 (wipe σ (own.map (·.2))) (wipeE env (own.map (·.2))) := (wipe_rep _ re1).mono (e2.trans e3) pre02
    have q4 := Pst.noExc (Pst.up e3 (Pre.refl _) q3) (wipe σ (own.map (·.2)))
    refine ⟨Hv3, S2, ad2, _, .val d, rew, s3, r3, q4.mono fun env4 S4 Hv4 ad4 H4 e4 p4 s4 q5 σ4 re4 w4 => ⟨by
      rw [w4]
      have idem : ∀ (vs ws : List Nat) (τ : St), (∀ v ∈ vs, v ∈ ws) → wipe (wipe τ vs) ws = wipe τ ws := fun vs => by
        induction vs with
        | nil => intro ws τ _; rfl
        | cons v vs ih =>
          intro ws τ hv
          show wipe ((wipe τ vs).set v none) ws = _
          rw [wipe_set _ _ _ ws (hv v List.mem_cons_self)]
          exact ih ws τ fun u hu => hv u (List.mem_cons_of_mem _ hu)
      exact idem _ _ σ fun _ h => h, ?_⟩⟩
    refine ⟨Hv4, S4, ad4, env4, re4, s4, (Pst.noExc q5 σ4).mono fun b S5 Hv5 ad5 H5 e5 p5 s5 q6 => ?_⟩
    have e15 : Ex Hv1 Hv5 := e2.trans (e3.trans (e4.trans e5))
    have p15 : Pre (ad1 ++ [Dd]) ad5 := p2.trans (p4.trans p5)
    cases b with
    | false => exact ⟨Hv5, S5, ad5, e15, p15, s5, q6⟩
    | true =>
      show cE X.K cl WF te σ4 H5 _
      refine ⟨Hv5, S5, ad5, env4, re4.mono e5 p5, s5, (Pst.noExc q6 σ4).mono fun a S6 Hv6 ad6 H6 e6 p6 s6 q7 v6 r6 => ?_⟩
      split at q7
      · rename_i y acc eac
        by_cases hz : acc.length < 100000
        · rw [if_pos hz] at q7
          have p16 : Pre (ad1 ++ [Dd]) ad6 := p15.trans p6
          have hD6 : ad6[S1.length]? = some Dd := p16.get hDn
          obtain ⟨D', g1, g2, xs, g3, g4⟩ := s6.at_ _ _ eac
          rw [hD6] at g1
          cases g1
          refine ⟨xs, g3, Nat.lt_of_lt_of_le (by rw [g4.length]; exact hz) (by decide), Hv6, _, ad6, e15.trans e6, p16, s6.write eac hD6 (c' := .lst (acc ++ [y])) ⟨_, upd_same, g4.append (.cons r6 .nil)⟩, q7⟩
        · rw [if_neg hz] at q7
          exact q7.elim
      · exact q7.elim
  · refine .inl ⟨(wk i Hv2 H2 e2 s2.ex).1 (by omega), ?_⟩
    rw [List.drop_eq_nil_of_le (by omega)] at q3
    have q4 : Pst X.K cl W σ Hv2 ad1 (RA X.K cl Q) (lcEndN S1.length S2) := q3 Hv2 ad2 H2 (Ex.refl _) (Pre.refl _) s2
    unfold lcEndN at q4
    split at q4
    · rename_i acc eac
      obtain ⟨D', g1, g2, g3⟩ := s2.at_ _ _ eac
      rw [hD2] at g1
      cases g1
      have s5 := s2.take (S1.length + 1)
      have ead : ad2.take (S1.length + 1) = ad1 ++ [Dd] := p2.take (by rw [List.length_append, s1.len]; rfl)
      rw [ead] at s5
      exact q4 Hv2 _ H2 (Ex.refl _) hpre s5 (.ref Dd) ⟨Dd, rfl, hDn⟩
    · exact q4.elim
theorem se_lcN (hc : X.calm = true) (hN : X.N.Nodup) (hi : SI X cl W tg iter src) (ok : BlkOk X.N X.env.scope scope own)
    (hg : ∀ (s : Shared) (H : Hp) (C : Addr) (c : List (Str × Addr)) (fp : List Addr), PG (X.blk s H scope (compEnvC scope c C X.env) fp) tg (cGx X.K cl (own.map (·.2)) g))
    (ht : ∀ (s : Shared) (H : Hp) (C : Addr) (c : List (Str × Addr)) (fp : List Addr), PTs (X.blk s H scope (compEnvC scope c C X.env) fp) ifs (cT X.K cl WF tt))
    (he : ∀ (s : Shared) (H : Hp) (C : Addr) (c : List (Str × Addr)) (fp : List Addr), SE (X.blk s H scope (compEnvC scope c C X.env) fp) cl WF elt te) (hs : ∀ x, foldedSetIterable iter X.env x = pure x := by intro _; rfl) :
    SE X cl W (.ListComp elt [⟨tg, iter, ifs, 0⟩] scope pos) (eLcN (own.map (·.2)) src g tt te) :=
  ⟨_, pe_lc hc hN hi.can ok hg ht (fun s H C c fp => (he s H C c fp).can) hs, rd_lcN⟩
/-- name = [..] -/
theorem ss_setLcN (i : Nat) {y : Str} {py spos : Pos} (hc : X.calm = true) (hN : X.N.Nodup) (hsw : swapsWith (.ListComp elt [⟨tg, iter, ifs, 0⟩] scope pos) (some (.Name y py)) spos.line X.env = pure true) (hi : SI X cl W tg iter src) (ok : BlkOk X.N X.env.scope scope own)
    (hg : ∀ (s : Shared) (H : Hp) (C : Addr) (c : List (Str × Addr)) (fp : List Addr), PG (X.blk s H scope (compEnvC scope c C X.env) fp) tg (cGx X.K cl (own.map (·.2)) g))
    (ht : ∀ (s : Shared) (H : Hp) (C : Addr) (c : List (Str × Addr)) (fp : List Addr), PTs (X.blk s H scope (compEnvC scope c C X.env) fp) ifs (cT X.K cl WF tt))
    (he : ∀ (s : Shared) (H : Hp) (C : Addr) (c : List (Str × Addr)) (fp : List Addr), SE (X.blk s H scope (compEnvC scope c C X.env) fp) cl WF elt te) (hs : ∀ x, foldedSetIterable iter X.env x = pure x := by intro _; rfl)
    (hy : X.N[i]? = some y := by rfl) (hyl : X.env.scope.names.lookup y = some .local := by rfl) :
    SS X cl W (.Assign [.Name y py] (.ListComp elt [⟨tg, iter, ifs, 0⟩] scope pos) spos) (sSet i (eLcN (own.map (·.2)) src g tt te)) :=
  ⟨_, ps_setLc hc hN hy hyl hsw hi.can ok hg ht (fun s H C c fp => (he s H C c fp).can) hs, fun σ Hv H S ad env Dn re so q =>
    rd_lcN (X := X) σ Hv H S ad env _ re so ((q.bind re).mono fun a S1 Hv1 ad1 H1 e1 p1 s1 q1 v1 r1 => q1 _ Hv1 ad1 H1 (Ex.refl _) (Pre.refl _) s1 ((re.mono e1 p1).set i r1))⟩
end
theorem room65 {k : Nat} {A : Around} (r : Room k A) : A.units + 65 < cLine := by have := r.un; omega
end R


namespace R
open PySem L2
/-! ### the evaluators as a machine for simp: nothing is opened before its arguments are there -/
section
variable {α β : Type} {env : Env} {S : Store} {f g k : Ev A} {fs gs : Ev (List A)} {a b : A} {as : List A} {d : D} {h h2 : A → A → Store → Out A} {hu : A → Store → Out A} {hl : List A → Store → Out A} {c c2 : Ev Bool} {s s2 : Sv}
theorem z_bind_ok {x : α} {K : α → Store → Out β} : (Out.ok x S).bind K = K x S := rfl
theorem z_bind_exc {n : Nat} {ns : List Str} {vs : List D} {K : α → Store → Out β} : (Out.exc n ns vs S : Out α).bind K = .exc n ns vs S := rfl
theorem z_bindS_ok {x : α} {K : α → Store → OutS} : (Out.ok x S).bindS env K = K x S := rfl
theorem z_bindS_exc {n : Nat} {ns : List Str} {vs : List D} {K : α → Store → OutS} : (Out.exc n ns vs S : Out α).bindS env K = .exc n ns vs env S := rfl
theorem z_C : eC d env S = .ok (.val d) S := rfl
def kVar (S : Store) (o : Option (Option A)) : Out A := match o with
  | some (some a) => .ok a S
  | _ => .bad
theorem z_var {i : Nat} : eVar i env S = kVar S env[i]? := rfl
theorem z_kVar : kVar S (some (some a)) = .ok a S := rfl
def kOp (h : A → A → Store → Out A) (g : Ev A) (env : Env) (a : A) (S : Store) : Out A := (g env S).bind (h a)
theorem z_op : eOp h f g env S = (f env S).bind (kOp h g env) := rfl
theorem z_kOp : kOp h g env a S = (g env S).bind (h a) := rfl
theorem z_un : eUn hu f env S = (f env S).bind hu := rfl
theorem z_nil : eNil env S = .ok [] S := rfl
def kCons (g : Ev (List A)) (env : Env) (a : A) (S : Store) : Out (List A) := (g env S).bind fun as S2 => .ok (a :: as) S2
def kCons2 (a : A) (as : List A) (S : Store) : Out (List A) := .ok (a :: as) S
theorem z_cons : eCons f gs env S = (f env S).bind (kCons gs env) := rfl
theorem z_kCons : kCons gs env a S = (gs env S).bind (kCons2 a) := rfl
theorem z_kCons2 : kCons2 a as S = .ok (a :: as) S := rfl
theorem z_app : eApp hl fs env S = (fs env S).bind hl := rfl
def kBool (a : A) (S : Store) : Out Bool := match a with
  | .val (.bl b) => .ok b S
  | _ => .bad
theorem z_bool : tBool f env S = (f env S).bind kBool := rfl
theorem z_kBool {x : Bool} : kBool (.val (.bl x)) S = .ok x S := rfl
def kAnd (g : Ev Bool) (env : Env) (b : Bool) (S : Store) : Out Bool := match b with
  | true => g env S
  | false => .ok false S
theorem z_and : tAndE c c2 env S = (c env S).bind (kAnd c2 env) := rfl
theorem z_kAnd_t : kAnd c env true S = c env S := rfl
theorem z_kAnd_f : kAnd c env false S = .ok false S := rfl
def kOr (g : Ev Bool) (env : Env) (b : Bool) (S : Store) : Out Bool := match b with
  | true => .ok true S
  | false => g env S
theorem z_or : tOrE c c2 env S = (c env S).bind (kOr c2 env) := rfl
theorem z_kOr_t : kOr c env true S = .ok true S := rfl
theorem z_kOr_f : kOr c env false S = c env S := rfl
def kNot (b : Bool) (S : Store) : Out Bool := .ok (!b) S
theorem z_not : tNotE c env S = (c env S).bind kNot := rfl
theorem z_kNot {x : Bool} : kNot x S = .ok (!x) S := rfl
def kAndE (g : Ev A) (env : Env) (a : A) (S : Store) : Out A := match a with
  | .val (.bl true) => g env S
  | .val (.bl false) => .ok (.val (.bl false)) S
  | _ => .bad
theorem z_andE : eAndE f g env S = (f env S).bind (kAndE g env) := rfl
theorem z_kAndE_t : kAndE g env (.val (.bl true)) S = g env S := rfl
theorem z_kAndE_f : kAndE g env (.val (.bl false)) S = .ok (.val (.bl false)) S := rfl
def kOrE (g : Ev A) (env : Env) (a : A) (S : Store) : Out A := match a with
  | .val (.bl true) => .ok (.val (.bl true)) S
  | .val (.bl false) => g env S
  | _ => .bad
theorem z_orE : eOrE f g env S = (f env S).bind (kOrE g env) := rfl
theorem z_kOrE_t : kOrE g env (.val (.bl true)) S = .ok (.val (.bl true)) S := rfl
theorem z_kOrE_f : kOrE g env (.val (.bl false)) S = g env S := rfl
def kIfE (f g : Ev A) (env : Env) (b : Bool) (S : Store) : Out A := match b with
  | true => f env S
  | false => g env S
theorem z_ifE : eIfE c f g env S = (c env S).bind (kIfE f g env) := rfl
theorem z_kIfE_t : kIfE f g env true S = f env S := rfl
theorem z_kIfE_f : kIfE f g env false S = g env S := rfl
theorem z_frz : eFrz f env S = (f env S).bind hFrz := rfl
theorem z_frz_v : hFrz (.val d) S = .ok (.val d) S := rfl
/-! statements -/
theorem z_seq : sSeq s s2 env S = (s env S).seq s2 := rfl
theorem z_seq_nx {e : Env} : (OutS.ok (.nx e) S).seq s = s e S := rfl
theorem z_seq_rt : (OutS.ok (.rt a) S).seq s = .ok (.rt a) S := rfl
theorem z_seq_bk {e : Env} : (OutS.ok (.bk e) S).seq s = .ok (.bk e) S := rfl
theorem z_seq_ct {e : Env} : (OutS.ok (.ct e) S).seq s = .ok (.ct e) S := rfl
def kDrop (env : Env) (_ : A) (S : Store) : OutS := .ok (.nx env) S
theorem z_drop : sDrop f env S = (f env S).bindS env (kDrop env) := rfl
theorem z_kDrop : kDrop env a S = .ok (.nx env) S := rfl
def kRet (a : A) (S : Store) : OutS := .ok (.rt a) S
theorem z_ret : sRet f env S = (f env S).bindS env kRet := rfl
theorem z_kRet : kRet a S = .ok (.rt a) S := rfl
theorem z_retN : sRetN env S = .ok (.rt (.val .non)) S := rfl
def kSet (i : Nat) (env : Env) (a : A) (S : Store) : OutS := .ok (.nx (env.set i (some a))) S
theorem z_set {i : Nat} : sSet i f env S = (f env S).bindS env (kSet i env) := rfl
theorem z_kSet {i : Nat} : kSet i env a S = .ok (.nx (env.set i (some a))) S := rfl
def kIf (s s2 : Sv) (env : Env) (b : Bool) (S : Store) : OutS := match b with
  | true => s env S
  | false => s2 env S
theorem z_if : sIf c s s2 env S = (c env S).bindS env (kIf s s2 env) := rfl
theorem z_kIf_t : kIf s s2 env true S = s env S := rfl
theorem z_kIf_f : kIf s s2 env false S = s2 env S := rfl
def kPar (i j : Nat) (env : Env) (as : List A) (S : Store) : OutS := match as with
  | [a, b] => .ok (.nx ((env.set i (some a)).set j (some b))) S
  | _ => .bad
theorem z_par {i j : Nat} : sPar i j fs env S = (fs env S).bindS env (kPar i j env) := rfl
theorem z_kPar {i j : Nat} : kPar i j env [a, b] S = .ok (.nx ((env.set i (some a)).set j (some b))) S := rfl
def kAsg2 (e : Env) (S : Store) : OutS := .ok (.nx e) S
def kAsg (t : A → Ev Env) (env : Env) (a : A) (S : Store) : OutS := (t a env S).bindS env kAsg2
theorem z_asg {t : A → Ev Env} : sAsg f t env S = (f env S).bindS env (kAsg t env) := rfl
theorem z_kAsg {t : A → Ev Env} : kAsg t env a S = (t a env S).bindS env kAsg2 := rfl
theorem z_kAsg2 : kAsg2 env S = .ok (.nx env) S := rfl
theorem z_next : sNext env S = .ok (.nx env) S := rfl
theorem z_break : sBreak env S = .ok (.bk env) S := rfl
theorem z_cont : sCont env S = .ok (.ct env) S := rfl
theorem z_gSet {i : Nat} : gSet i a env S = .ok (env.set i (some a)) S := rfl
/-! defs -/
def kDef (S : Store) (o : OutS) : Out A := match o with
  | .ok (.nx _) S' => .ok (.val .non) (S'.take S.length)
  | .ok (.rt (.val d)) S' => .ok (.val d) (S'.take S.length)
  | .ok (.rt (.loc k)) S' => if k < S.length then .ok (.loc k) (S'.take S.length) else (match S'[k]? with
    | some (some c) => .ok (.loc S.length) (S'.take S.length ++ [some c])
    | _ => .bad)
  | .exc c ns vs _ S' => .exc c ns vs (S'.take S.length)
  | _ => .bad
theorem z_def {n : Nat} : defF n s as S = kDef S (s (startE n as) S) := rfl
theorem z_kDef_v {S' : Store} : kDef S (.ok (.rt (.val d)) S') = .ok (.val d) (S'.take S.length) := rfl
theorem z_kDef_n {S' : Store} : kDef S (.ok (.nx env) S') = .ok (.val .non) (S'.take S.length) := rfl
theorem z_call {n : Nat} {G : List A → Store → Out A} (hn : as.length = n) : callG n G [] as S = G as S := by
  unfold callG
  rw [List.append_nil, if_pos hn]
/-! loops -/
theorem z_for {src : Ev (List D)} {t : A → Ev Env} : sFor src t s env S = (src env S).bindS env fun ds S1 => forD t s ds env S1 := rfl
theorem z_for_nil {t : A → Ev Env} : forD t s [] env S = .ok (.nx env) S := rfl
def kFor2 (t : A → Ev Env) (s : Sv) (r : List D) (o : OutS) : OutS := match o with
  | .ok (.nx env2) S2 => forD t s r env2 S2
  | .ok (.ct env2) S2 => forD t s r env2 S2
  | .ok (.bk env2) S2 => .ok (.nx env2) S2
  | .ok (.rt a) S2 => .ok (.rt a) S2
  | .exc c ns vs env2 S2 => .exc c ns vs env2 S2
  | .bad => .bad
def kFor (t : A → Ev Env) (s : Sv) (r : List D) (env : Env) (S : Store) : OutS := kFor2 t s r (s env S)
theorem z_for_cons {t : A → Ev Env} {r : List D} : forD t s (d :: r) env S = (t (.val d) env S).bindS env (kFor t s r) := rfl
theorem z_kFor {t : A → Ev Env} {r : List D} : kFor t s r env S = kFor2 t s r (s env S) := rfl
theorem z_kFor_nx {t : A → Ev Env} {r : List D} : kFor2 t s r (.ok (.nx env) S) = forD t s r env S := rfl
theorem z_kFor_ct {t : A → Ev Env} {r : List D} : kFor2 t s r (.ok (.ct env) S) = forD t s r env S := rfl
theorem z_kFor_bk {t : A → Ev Env} {r : List D} : kFor2 t s r (.ok (.bk env) S) = .ok (.nx env) S := rfl
theorem z_kFor_rt {t : A → Ev Env} {r : List D} : kFor2 t s r (.ok (.rt a) S) = .ok (.rt a) S := rfl
def kForI (t : A → Ev Env) (s : Sv) (env : Env) (ds : List D) (S : Store) : OutS := forD t s ds env S
theorem z_forI {src : Ev (List D)} {t : A → Ev Env} : sFor src t s env S = (src env S).bindS env (kForI t s env) := rfl
theorem z_kForI {t : A → Ev Env} {ds : List D} : kForI t s env ds S = forD t s ds env S := rfl
theorem for_step {t : A → Ev Env} {r : List D} {env1 env2 : Env} {S1 S2 : Store} (h1 : t (.val d) env S = .ok env1 S1) (h2 : s env1 S1 = .ok (.nx env2) S2) : forD t s (d :: r) env S = forD t s r env2 S2 := by
  rw [z_for_cons, h1, z_bindS_ok, z_kFor, h2, z_kFor_nx]
/-- a loop that goes on to its end; I k: what holds behind k turns -/
theorem for_inv {t : A → Ev Env} {I : Nat → Env → Store → Prop} : ∀ {ds : List D} {k : Nat} {env : Env} {S : Store},
    (∀ (j : Nat) (d : D) (env : Env) (S : Store), ds[j]? = some d → I (k + j) env S → ∃ env1 S1 env2 S2, t (.val d) env S = .ok env1 S1 ∧ s env1 S1 = .ok (.nx env2) S2 ∧ I (k + j + 1) env2 S2) → I k env S →
    ∃ env' S', I (k + ds.length) env' S' ∧ forD t s ds env S = .ok (.nx env') S'
  | [], k, env, S, _, h => ⟨env, S, h, rfl⟩
  | d :: r, k, env, S, step, h => by
    obtain ⟨env1, S1, env2, S2, h1, h2, h3⟩ := step 0 d env S rfl h
    obtain ⟨env', S', h4, h5⟩ := for_inv (ds := r) (k := k + 1) (fun j d' env S hj hI => by
      have := step (j + 1) d' env S (by simpa using hj) (by rw [show k + (j + 1) = k + 1 + j from by omega]; exact hI)
      rw [show k + (j + 1) + 1 = k + 1 + j + 1 from by omega] at this
      exact this) h3
    refine ⟨env', S', ?_, by rw [for_step h1 h2]; exact h5⟩
    rw [List.length_cons, show k + (r.length + 1) = k + 1 + r.length from by omega]
    exact h4
theorem append_ok {fo fe : Ev A} {n : Nat} {ds : List D} (h1 : fo env S = .ok (.loc n) S) (h2 : fe env S = .ok (.val d) S) (h3 : S[n]? = some (some (.lst ds))) (h4 : ds.length < 100000) : eAppend fo fe env S = .ok (.val .non) (S.set n (some (.lst (ds ++ [d])))) := by
  unfold eAppend
  rw [h1, z_bind_ok]
  have e : lst? S (.loc n) = some ds := by
    unfold lst?
    simp only [h3]
  simp only [e, h2, z_bind_ok, h3, if_pos h4]
end
end R


namespace R
open PySem L2

/-! ### the pen: plain facts of the draw that every law has -/
structure DrawC where
  k1 : Int
  k2 : Int
  m1 : Int
  a1 : Int
  b1 : Int
  m2 : Int
  t1 : Int
  a2 : Int
  b2 : Int
  m3 : Int
def DrawC.ok (c : DrawC) : Bool := (decide (0 ≤ c.k1) && decide (c.k1 < 2 ^ 21)) && ((decide (0 ≤ c.k2) && decide (c.k2 < 2 ^ 21)) && ((decide (0 < c.m1) && decide (c.m1 ≤ 2 ^ 31)) && ((decide (0 ≤ c.a1) && decide (c.a1 < 2 ^ 21)) && ((decide (0 ≤ c.b1) && decide (c.b1 < 2 ^ 21)) && ((decide (0 < c.m2) && decide (c.m2 ≤ 2 ^ 31)) &&
  ((decide (0 ≤ c.t1) && decide (c.t1 < 2 ^ 21)) && ((decide (0 ≤ c.a2) && decide (c.a2 < 2 ^ 21)) && ((decide (0 ≤ c.b2) && decide (c.b2 < 2 ^ 21)) && (decide (0 < c.m3) && decide (c.m3 ≤ 2 ^ 31))))))))))
def drawT (c : DrawC) : Sv := sSeq (sSet 6 (eOp hMod (eApp hIntC (eCons (eOp hPow (eOp hAdd (eOp hAdd (eOp hMod (eApp hIntC (eCons (eVar 4) (eNil))) (eC (.int c.m1))) (eOp hMulA (eC (.int c.a1)) (eVar 3))) (eC (.int c.b1))) (eC (.int 5))) (eNil))) (eC (.int c.m2))))
    (sSeq (sSet 6 (eOp hMod (eApp hIntC (eCons (eOp hPow (eOp hAdd (eOp hAdd (eOp hMulA (eVar 6) (eOp hAdd (eOp hMulA (eC (.int 2)) (eVar 3)) (eC (.int c.t1)))) (eOp hMulA (eOp hMulA (eC (.int c.a2)) (eVar 3)) (eVar 3))) (eC (.int c.b2))) (eC (.int 3))) (eNil))) (eC (.int c.m3))))
    (sRet (eOp hMod (eApp hIntC (eCons (eOp hDiv (eVar 6) (eC (.int 32))) (eNil))) (eVar 1))))
def drawE (c : DrawC) : Sv := sSeq (sIf (tBool (eOp hGt (eOp hIx (eVar 0) (eC (.int 2))) (eC (.int 0)))) (sSeq (sSet 2 (eOp hMod (eApp hIntC (eCons (eOp hIx (eVar 0) (eC (.int 2))) (eNil))) (eVar 1)))
    (sSeq (sAsg (eOp hDiv (eApp hIntC (eCons (eOp hIx (eVar 0) (eC (.int 2))) (eNil))) (eVar 1)) (gItem (eVar 0) (eC (.int 2))))
    (sRet (eVar 2))))
    (sNext))
    (sSeq (sSet 3 (eOp hIx (eVar 0) (eC (.int 1))))
    (sSeq (sAsg (eOp hAdd (eVar 3) (eC (.int 1))) (gItem (eVar 0) (eC (.int 1))))
    (sSeq (sSet 4 (eOp hAdd (eOp hMulA (eC (.int c.k1)) (eVar 3)) (eC (.int c.k2))))
    (sSeq (sIf (tBool (eOp hNe (eOp hIx (eVar 0) (eC (.int 0))) (eApp hLst (eNil)))) (sSet 4 (eOp hIx (eOp hIx (eVar 0) (eC (.int 0))) (eOp hMod (eApp hIntC (eCons (eVar 3) (eNil))) (eApp hLen (eCons (eOp hIx (eVar 0) (eC (.int 0))) (eNil))))))
    (sNext))
    (sSeq (sIf (tAndE (tBool (eOp hLt (eVar 3) (eApp hLen (eCons (eOp hIx (eVar 0) (eC (.int 0))) (eNil))))) (tBool (eOp hGe (eApp hAbs (eCons (eVar 4) (eNil))) (eOp hPow (eC (.int 10)) (eC (.int 18)))))) (sSeq (sSet 5 (eOp hAdd (eOp hMulA (eC (.int 2)) (eOp hSub (eApp hAbs (eCons (eVar 4) (eNil))) (eOp hPow (eC (.int 10)) (eC (.int 18))))) (eApp hIntC (eCons (eOp hLt (eVar 4) (eC (.int 0))) (eNil)))))
    (sSeq (sAsg (eOp hDiv (eApp hIntC (eCons (eVar 5) (eNil))) (eVar 1)) (gItem (eVar 0) (eC (.int 2))))
    (sRet (eOp hMod (eApp hIntC (eCons (eVar 5) (eNil))) (eVar 1)))))
    (sNext))
    (drawT c))))))

/-- the pen as it stands -/
def penC (cs : List Int) (t r : Int) : Con := .lst [.lst (cs.map D.int), .int t, .int r]

/-! operations on plain values -/
section
variable {S : Store} {i j : Int}
theorem hGt_i : hGt (.val (.int i)) (.val (.int j)) S = .ok (.val (.bl (decide (j < i)))) S := rfl
theorem hLt_i : hLt (.val (.int i)) (.val (.int j)) S = .ok (.val (.bl (decide (i < j)))) S := rfl
theorem hGe_i : hGe (.val (.int i)) (.val (.int j)) S = .ok (.val (.bl (decide (j ≤ i)))) S := rfl
theorem hLe_i : hLe (.val (.int i)) (.val (.int j)) S = .ok (.val (.bl (decide (i ≤ j)))) S := rfl
theorem hAdd_i : hAdd (.val (.int i)) (.val (.int j)) S = .ok (.val (.int (i + j))) S := rfl
theorem hSub_i : hSub (.val (.int i)) (.val (.int j)) S = .ok (.val (.int (i - j))) S := rfl
theorem hMod_i (h : 0 < j) : hMod (.val (.int i)) (.val (.int j)) S = .ok (.val (.int (i % j))) S := by
  show (if decide (0 < j) = true then _ else _) = _
  rw [if_pos (decide_eq_true h)]
theorem hDiv_i (h : 0 < j) (h2 : j < 2 ^ 64) : hDiv (.val (.int i)) (.val (.int j)) S = .ok (.val (.int (i / j))) S := by
  show (if divOk i j = true then _ else _) = _
  rw [if_pos]
  unfold divOk
  rw [decide_eq_true h, Bool.true_and]
  refine decide_eq_true ?_
  have : j.natAbs < 2 ^ 64 := by omega
  have := PySem.Flt.log2_lt_of (by decide : 0 < 64) this
  omega
theorem hMul_l (h : i.natAbs < 2 ^ 64) : hMulA (.val (.int i)) (.val (.int j)) S = .ok (.val (.int (i * j))) S := by
  show (if mulOk i j = true then _ else _) = _
  rw [if_pos]
  unfold mulOk
  rw [decide_eq_true h]
  rfl
theorem hMul_r (h : j.natAbs < 2 ^ 64) : hMulA (.val (.int i)) (.val (.int j)) S = .ok (.val (.int (i * j))) S := by
  show (if mulOk i j = true then _ else _) = _
  rw [if_pos]
  unfold mulOk
  rw [decide_eq_true h]
  simp
theorem hPow_i (h0 : 0 ≤ j) (h1 : j ≤ 1000000) (h : i.natAbs < 2 ^ 64) : hPow (.val (.int i)) (.val (.int j)) S = .ok (.val (.int (i ^ j.toNat))) S := by
  show (if powOk i j = true then _ else _) = _
  rw [if_pos]
  unfold powOk
  rw [decide_eq_true h0, decide_eq_true h1, decide_eq_true h]
  rfl
theorem hIntC_i : hIntC [.val (.int i)] S = .ok (.val (.int i)) S := rfl
theorem hIntC_b {b : Bool} : hIntC [.val (.bl b)] S = .ok (.val (.int (if b then 1 else 0))) S := rfl
theorem hAbs_i : hAbs [.val (.int i)] S = .ok (.val (.int (if i < 0 then -i else i))) S := rfl
theorem hLen_l {ds : List D} : hLen [.val (.lst ds)] S = .ok (.val (.int ds.length)) S := rfl
end
theorem toPys_ints : ∀ cs : List Int, toPys (cs.map D.int) = some (cs.map PyData.int)
  | [] => by simp only [List.map_nil, toPys]
  | c :: cs => by simp only [List.map_cons, toPys, toPy, toPys_ints cs]
theorem canLay_ints : ∀ cs : List Int, PyData.canLayAll0 (cs.map PyData.int) = true
  | [] => by simp only [List.map_nil, PyData.canLayAll0]
  | c :: cs => by simp only [List.map_cons, PyData.canLayAll0, PyData.canLay0, canLay_ints cs, Bool.and_self]
theorem depth_ints : ∀ cs : List Int, PyData.depthAll (cs.map PyData.int) ≤ 1
  | [] => by simp [PyData.depthAll]
  | c :: cs => by
    have h := depth_ints cs
    simp only [List.map_cons, PyData.depthAll, PyData.depth]
    omega
theorem shaped_ints (cs : List Int) : SeqAt.shaped (.list (cs.map PyData.int)) = true := by
  have h := depth_ints cs
  unfold SeqAt.shaped
  rw [Bool.and_eq_true]
  refine ⟨by simp only [PyData.canLay0]; exact canLay_ints cs, decide_eq_true ?_⟩
  simp only [PyData.depth]
  omega
theorem hNe_nil {S : Store} (cs : List Int) : hNe (.val (.lst (cs.map D.int))) (.val (.lst [])) S = .ok (.val (.bl (!cs.isEmpty))) S := by
  have e : eqPy S (.val (.lst (cs.map D.int))) (.val (.lst [])) = some cs.isEmpty := by
    unfold eqPy pyA lst?
    simp only [toPys_ints, toPys, Option.map_some]
    rw [if_pos ⟨shaped_ints cs, shaped_ints []⟩]
    cases cs <;> simp [PyData.eqv, PyData.eqvAll]
  unfold hNe eqA eqS
  simp only [e]

theorem set_pen {S : Store} {p : Nat} {x y : Option Con} (h : S[p]? = some x) : (S.set p y)[p]? = some y := List.getElem?_set_self (List.getElem?_eq_some_iff.mp h).1
section
variable {S : Store} {p : Nat} {cs : List Int} {t r : Int}
theorem ix_pen0 (h : S[p]? = some (some (penC cs t r))) : hIx (.loc p) (.val (.int 0)) S = .ok (.val (.lst (cs.map D.int))) S := by
  unfold hIx lst?
  simp only [h, penC]
  rfl
theorem ix_pen1 (h : S[p]? = some (some (penC cs t r))) : hIx (.loc p) (.val (.int 1)) S = .ok (.val (.int t)) S := by
  unfold hIx lst?
  simp only [h, penC]
  rfl
theorem ix_pen2 (h : S[p]? = some (some (penC cs t r))) : hIx (.loc p) (.val (.int 2)) S = .ok (.val (.int r)) S := by
  unfold hIx lst?
  simp only [h, penC]
  rfl
theorem ix_cell (hne : cs ≠ []) (i : Int) (h0 : 0 ≤ i) (h1 : i < (cs.length : Nat)) : ∃ x, hIx (.val (.lst (cs.map D.int))) (.val (.int i)) S = .ok (.val (.int x)) S := by
  have hl : i.toNat < cs.length := by omega
  refine ⟨cs[i.toNat], ?_⟩
  have e : L2.atI (cs.map D.int) i = some (.int cs[i.toNat]) := by
    unfold L2.atI ixN
    rw [List.length_map, if_pos h0, if_pos h1]
    simp [hl]
  unfold hIx lst?
  simp only [e]
theorem put1 {env : Env} (h : S[p]? = some (some (penC cs t r))) (he : env[0]? = some (some (.loc p))) (u : Int) : gItem (eVar 0) (eC (.int 1)) (.val (.int u)) env S = .ok env (S.set p (some (penC cs u r))) := by
  unfold gItem eVar eC
  simp only [he, Out.bind, h, penC]
  rfl
theorem put2 {env : Env} (h : S[p]? = some (some (penC cs t r))) (he : env[0]? = some (some (.loc p))) (u : Int) : gItem (eVar 0) (eC (.int 2)) (.val (.int u)) env S = .ok env (S.set p (some (penC cs t u))) := by
  unfold gItem eVar eC
  simp only [he, Out.bind, h, penC]
  rfl
theorem take_set {x : Option Con} : (S.set p x).take S.length = S.set p x := by
  rw [List.take_of_length_le]
  simp
end
theorem draw_wrap {X : Out A} {S : Store} {p : Nat} {cs : List Int} {t m t' r' : Int} (h1 : t' = t ∨ t' = t + 1) (h2 : 0 ≤ r') (hm0 : 0 < m) (h : ∃ u, X = .ok (.val (.int (u % m))) (S.set p (some (penC cs t' r')))) :
    ∃ t' r' v, (t' = t ∨ t' = t + 1) ∧ 0 ≤ r' ∧ 0 ≤ v ∧ v < m ∧ X = .ok (.val (.int v)) (S.set p (some (penC cs t' r'))) :=
  let ⟨_, h⟩ := h
  ⟨t', r', _, h1, h2, Int.emod_nonneg _ (by omega), Int.emod_lt_of_pos _ hm0, h⟩
theorem draw_ok {c : DrawC} (hc : c.ok = true) {S : Store} {p : Nat} {cs : List Int} {t r m : Int} (hS : S[p]? = some (some (penC cs t r))) (ht0 : 0 ≤ t) (ht : t ≤ 1000000) (hr : 0 ≤ r) (hm0 : 0 < m) (hm : m < 2 ^ 64) :
    ∃ t' r' v, (t' = t ∨ t' = t + 1) ∧ 0 ≤ r' ∧ 0 ≤ v ∧ v < m ∧ defF 7 (drawE c) [.loc p, .val (.int m)] S = .ok (.val (.int v)) (S.set p (some (penC cs t' r'))) := by
  unfold DrawC.ok at hc
  simp only [Bool.and_eq_true, decide_eq_true_eq] at hc
  obtain ⟨⟨k10, k11⟩, ⟨k20, k21⟩, ⟨m10, m11⟩, ⟨a10, a11⟩, ⟨b10, b11⟩, ⟨m20, m21⟩, ⟨t10, t11⟩, ⟨a20, a21⟩, ⟨b20, b21⟩, m30, m31⟩ := hc
  have est : startE 7 [.loc p, .val (.int m)] = [some (.loc p), some (.val (.int m)), none, none, none, none, none] := rfl
  rw [z_def, est]
  unfold drawE
  by_cases hr0 : 0 < r
  · refine ⟨t, r / m, r % m, .inl rfl, Int.ediv_nonneg hr (Int.le_of_lt hm0), Int.emod_nonneg _ (by omega), Int.emod_lt_of_pos _ hm0, ?_⟩
    simp only [z_bind_ok, z_bindS_ok, z_C, z_var, z_kVar, z_op, z_kOp, z_un, z_nil, z_cons, z_kCons, z_kCons2, z_app, z_bool, z_kBool, z_and, z_kAnd_t, z_kAnd_f, z_or, z_kOr_t, z_kOr_f, z_not, z_kNot, z_andE, z_kAndE_t, z_kAndE_f, z_orE, z_kOrE_t, z_kOrE_f, z_ifE, z_kIfE_t, z_kIfE_f, z_frz, z_frz_v, z_seq, z_seq_nx, z_seq_rt, z_seq_bk, z_seq_ct, z_drop, z_kDrop, z_ret, z_kRet, z_retN, z_set, z_kSet, z_if, z_kIf_t, z_kIf_f, z_par, z_kPar, z_asg, z_kAsg, z_kAsg2, z_next, z_break, z_cont, z_gSet, z_for_nil, z_for_cons, z_kFor, z_kFor_nx, z_kFor_ct, z_kFor_bk, z_kFor_rt, z_forI, z_kForI, List.getElem?_cons_zero, List.getElem?_cons_succ, List.set_cons_zero, List.set_cons_succ, ix_pen2 hS, hGt_i, decide_eq_true hr0, hIntC_i, hMod_i hm0, hDiv_i hm0 hm, put2 hS (env := [some (A.loc p), some (A.val (D.int m)), some (A.val (D.int (r % m))), none, none, none, none]) rfl]
    rw [z_kDef_v, take_set]
  · have hS1 := set_pen (y := some (penC cs (t + 1) r)) hS
    have hS2 : ∀ u, (S.set p (some (penC cs (t + 1) r))).set p (some (penC cs (t + 1) u)) = S.set p (some (penC cs (t + 1) u)) := fun u => by rw [List.set_set]
    have k1 : c.k1.natAbs < 2 ^ 64 := by omega
    have a1 : c.a1.natAbs < 2 ^ 64 := by omega
    have a2 : c.a2.natAbs < 2 ^ 64 := by omega
    have tn : t.natAbs < 2 ^ 64 := by omega
    have m1x : ∀ x : Int, 0 ≤ x % c.m1 ∧ x % c.m1 < c.m1 := fun x => ⟨Int.emod_nonneg _ (by omega), Int.emod_lt_of_pos _ m10⟩
    have m2x : ∀ x : Int, 0 ≤ x % c.m2 ∧ x % c.m2 < c.m2 := fun x => ⟨Int.emod_nonneg _ (by omega), Int.emod_lt_of_pos _ m20⟩
    have m3x : ∀ x : Int, 0 ≤ x % c.m3 ∧ x % c.m3 < c.m3 := fun x => ⟨Int.emod_nonneg _ (by omega), Int.emod_lt_of_pos _ m30⟩
    have at1 : 0 ≤ c.a1 * t ∧ c.a1 * t ≤ 2 ^ 21 * 1000000 := ⟨Int.mul_nonneg a10 ht0, Int.mul_le_mul (by omega) ht ht0 (by decide)⟩
    have at2 : 0 ≤ c.a2 * t ∧ c.a2 * t ≤ 2 ^ 21 * 1000000 := ⟨Int.mul_nonneg a20 ht0, Int.mul_le_mul (by omega) ht ht0 (by decide)⟩
    have at3 : 0 ≤ c.a2 * t * t ∧ c.a2 * t * t ≤ 2 ^ 21 * 1000000 * 1000000 := ⟨Int.mul_nonneg at2.1 ht0, Int.mul_le_mul at2.2 ht ht0 (by decide)⟩
    have p1 : ∀ x : Int, (x % c.m1 + c.a1 * t + c.b1).natAbs < 2 ^ 64 := fun x => by have := m1x x; omega
    have q1 : ∀ x : Int, 0 ≤ (x % c.m2) * (2 * t + c.t1) ∧ (x % c.m2) * (2 * t + c.t1) ≤ 2 ^ 31 * (2000000 + 2 ^ 21) := fun x => by
      have := m2x x
      exact ⟨Int.mul_nonneg this.1 (by omega), Int.mul_le_mul (by omega) (by omega) (by omega) (by decide)⟩
    have p2 : ∀ x : Int, ((x % c.m2) * (2 * t + c.t1) + c.a2 * t * t + c.b2).natAbs < 2 ^ 64 := fun x => by have := q1 x; omega
    have mm : ∀ x : Int, (2 * t + c.t1).natAbs < 2 ^ 64 := fun _ => by omega
    have fin : ∀ x : Int, 0 ≤ x % m ∧ x % m < m := fun x => ⟨Int.emod_nonneg _ (by omega), Int.emod_lt_of_pos _ hm0⟩
    have h10 : ((10 : Int)).natAbs < 2 ^ 64 := by decide
    have h2n : ((2 : Int)).natAbs < 2 ^ 64 := by decide
    have tail : ∀ (S1 : Store) (x : Int), drawT c [some (A.loc p), some (A.val (D.int m)), none, some (A.val (D.int t)), some (A.val (D.int x)), none, none] S1
        = .ok (.rt (.val (.int (((((((x % c.m1 + c.a1 * t + c.b1) ^ (5 : Int).toNat) % c.m2) * (2 * t + c.t1) + c.a2 * t * t + c.b2) ^ (3 : Int).toNat) % c.m3) / 32 % m)))) S1 := fun S1 x => by
      unfold drawT
      simp only [z_bind_ok, z_bindS_ok, z_C, z_var, z_kVar, z_op, z_kOp, z_un, z_nil, z_cons, z_kCons, z_kCons2, z_app, z_bool, z_kBool, z_and, z_kAnd_t, z_kAnd_f, z_or, z_kOr_t, z_kOr_f, z_not, z_kNot, z_andE, z_kAndE_t, z_kAndE_f, z_orE, z_kOrE_t, z_kOrE_f, z_ifE, z_kIfE_t, z_kIfE_f, z_frz, z_frz_v, z_seq, z_seq_nx, z_seq_rt, z_seq_bk, z_seq_ct, z_drop, z_kDrop, z_ret, z_kRet, z_retN, z_set, z_kSet, z_if, z_kIf_t, z_kIf_f, z_par, z_kPar, z_asg, z_kAsg, z_kAsg2, z_next, z_break, z_cont, z_gSet, z_for_nil, z_for_cons, z_kFor, z_kFor_nx, z_kFor_ct, z_kFor_bk, z_kFor_rt, z_forI, z_kForI, List.getElem?_cons_zero, List.getElem?_cons_succ, List.set_cons_zero, List.set_cons_succ, hIntC_i, hMod_i m10, hMul_l a1, hAdd_i, hPow_i (show (0 : Int) ≤ 5 by decide) (show (5 : Int) ≤ 1000000 by decide) (p1 x), hMod_i m20, hMul_l h2n, hMul_r (mm x), hMul_l a2, hMul_r tn, hPow_i (show (0 : Int) ≤ 3 by decide) (show (3 : Int) ≤ 1000000 by decide) (p2 _), hMod_i m30, hDiv_i (show (0 : Int) < 32 by decide) (show (32 : Int) < 2 ^ 64 by decide), hMod_i hm0]
    have hl : ∀ S1, hLst [] S1 = .ok (.val (.lst [])) S1 := fun _ => rfl
    by_cases hcs : cs = []
    · subst hcs
      have hlt : decide (t < (([] : List Int).map D.int).length) = false := decide_eq_false (by simp; omega)
      refine draw_wrap (t' := t + 1) (r' := r) (.inr rfl) hr hm0 ?_
      simp only [z_bind_ok, z_bindS_ok, z_C, z_var, z_kVar, z_op, z_kOp, z_un, z_nil, z_cons, z_kCons, z_kCons2, z_app, z_bool, z_kBool, z_and, z_kAnd_t, z_kAnd_f, z_or, z_kOr_t, z_kOr_f, z_not, z_kNot, z_andE, z_kAndE_t, z_kAndE_f, z_orE, z_kOrE_t, z_kOrE_f, z_ifE, z_kIfE_t, z_kIfE_f, z_frz, z_frz_v, z_seq, z_seq_nx, z_seq_rt, z_seq_bk, z_seq_ct, z_drop, z_kDrop, z_ret, z_kRet, z_retN, z_set, z_kSet, z_if, z_kIf_t, z_kIf_f, z_par, z_kPar, z_asg, z_kAsg, z_kAsg2, z_next, z_break, z_cont, z_gSet, z_for_nil, z_for_cons, z_kFor, z_kFor_nx, z_kFor_ct, z_kFor_bk, z_kFor_rt, z_forI, z_kForI, List.getElem?_cons_zero, List.getElem?_cons_succ, List.set_cons_zero, List.set_cons_succ, ix_pen2 hS, hGt_i, decide_eq_false hr0, ix_pen1 hS, hAdd_i, put1 hS (env := [some (A.loc p), some (A.val (D.int m)), none, some (A.val (D.int t)), none, none, none]) rfl, hMul_l k1, ix_pen0 hS1, hl, hNe_nil, List.isEmpty_nil, Bool.not_true, hLen_l, hLt_i, hlt, tail, z_kDef_v, take_set]
      exact ⟨_, rfl⟩
    · have hne : cs.isEmpty = false := by cases cs with | nil => exact absurd rfl hcs | cons _ _ => rfl
      have hpos : (0 : Int) < ((cs.map D.int).length : Nat) := by
        cases cs with
        | nil => exact absurd rfl hcs
        | cons _ _ => simp
      obtain ⟨x, hx⟩ := ix_cell (S := S.set p (some (penC cs (t + 1) r))) hcs (t % ((cs.map D.int).length : Nat)) (Int.emod_nonneg _ (by omega)) (by have := Int.emod_lt_of_pos t hpos; rw [List.length_map] at this ⊢; exact this)
      have pw : hPow (.val (.int 10)) (.val (.int 18)) (S.set p (some (penC cs (t + 1) r))) = .ok (.val (.int (10 ^ 18))) (S.set p (some (penC cs (t + 1) r))) := by
        rw [hPow_i (by decide) (by decide) h10]
        rfl
      by_cases hb : t < ((cs.map D.int).length : Nat) ∧ (10 : Int) ^ 18 ≤ (if x < 0 then -x else x)
      · refine draw_wrap (t' := t + 1) (r' := (2 * ((if x < 0 then -x else x) - 10 ^ 18) + (if decide (x < 0) = true then 1 else 0)) / m) (.inr rfl) ?_ hm0 ?_
        · refine Int.ediv_nonneg ?_ (Int.le_of_lt hm0)
          have := hb.2
          split <;> omega
        · simp only [z_bind_ok, z_bindS_ok, z_C, z_var, z_kVar, z_op, z_kOp, z_un, z_nil, z_cons, z_kCons, z_kCons2, z_app, z_bool, z_kBool, z_and, z_kAnd_t, z_kAnd_f, z_or, z_kOr_t, z_kOr_f, z_not, z_kNot, z_andE, z_kAndE_t, z_kAndE_f, z_orE, z_kOrE_t, z_kOrE_f, z_ifE, z_kIfE_t, z_kIfE_f, z_frz, z_frz_v, z_seq, z_seq_nx, z_seq_rt, z_seq_bk, z_seq_ct, z_drop, z_kDrop, z_ret, z_kRet, z_retN, z_set, z_kSet, z_if, z_kIf_t, z_kIf_f, z_par, z_kPar, z_asg, z_kAsg, z_kAsg2, z_next, z_break, z_cont, z_gSet, z_for_nil, z_for_cons, z_kFor, z_kFor_nx, z_kFor_ct, z_kFor_bk, z_kFor_rt, z_forI, z_kForI, List.getElem?_cons_zero, List.getElem?_cons_succ, List.set_cons_zero, List.set_cons_succ, ix_pen2 hS, hGt_i, decide_eq_false hr0, ix_pen1 hS, hAdd_i, put1 hS (env := [some (A.loc p), some (A.val (D.int m)), none, some (A.val (D.int t)), none, none, none]) rfl, hMul_l k1, ix_pen0 hS1, hl, hNe_nil, hne, Bool.not_false, hIntC_i, hLen_l, hMod_i hpos, hx, hLt_i, decide_eq_true hb.1, hAbs_i, pw, hGe_i, decide_eq_true hb.2, hSub_i, hMul_l h2n, hIntC_b, hDiv_i hm0 hm, put2 hS1 (env := [some (A.loc p), some (A.val (D.int m)), none, some (A.val (D.int t)), some (A.val (D.int x)), some (A.val (D.int (2 * ((if x < 0 then -x else x) - 10 ^ 18) + (if decide (x < 0) = true then 1 else 0)))), none]) rfl, hMod_i hm0, z_kDef_v, hS2, take_set]
          exact ⟨_, rfl⟩
      · refine draw_wrap (t' := t + 1) (r' := r) (.inr rfl) hr hm0 ?_
        by_cases h1 : t < ((cs.map D.int).length : Nat)
        · have h2 : ¬ (10 : Int) ^ 18 ≤ (if x < 0 then -x else x) := fun z => hb ⟨h1, z⟩
          simp only [z_bind_ok, z_bindS_ok, z_C, z_var, z_kVar, z_op, z_kOp, z_un, z_nil, z_cons, z_kCons, z_kCons2, z_app, z_bool, z_kBool, z_and, z_kAnd_t, z_kAnd_f, z_or, z_kOr_t, z_kOr_f, z_not, z_kNot, z_andE, z_kAndE_t, z_kAndE_f, z_orE, z_kOrE_t, z_kOrE_f, z_ifE, z_kIfE_t, z_kIfE_f, z_frz, z_frz_v, z_seq, z_seq_nx, z_seq_rt, z_seq_bk, z_seq_ct, z_drop, z_kDrop, z_ret, z_kRet, z_retN, z_set, z_kSet, z_if, z_kIf_t, z_kIf_f, z_par, z_kPar, z_asg, z_kAsg, z_kAsg2, z_next, z_break, z_cont, z_gSet, z_for_nil, z_for_cons, z_kFor, z_kFor_nx, z_kFor_ct, z_kFor_bk, z_kFor_rt, z_forI, z_kForI, List.getElem?_cons_zero, List.getElem?_cons_succ, List.set_cons_zero, List.set_cons_succ, ix_pen2 hS, hGt_i, decide_eq_false hr0, ix_pen1 hS, hAdd_i, put1 hS (env := [some (A.loc p), some (A.val (D.int m)), none, some (A.val (D.int t)), none, none, none]) rfl, hMul_l k1, ix_pen0 hS1, hl, hNe_nil, hne, Bool.not_false, hIntC_i, hLen_l, hMod_i hpos, hx, hLt_i, decide_eq_true h1, hAbs_i, pw, hGe_i, decide_eq_false h2, tail, z_kDef_v, take_set]
          exact ⟨_, rfl⟩
        · simp only [z_bind_ok, z_bindS_ok, z_C, z_var, z_kVar, z_op, z_kOp, z_un, z_nil, z_cons, z_kCons, z_kCons2, z_app, z_bool, z_kBool, z_and, z_kAnd_t, z_kAnd_f, z_or, z_kOr_t, z_kOr_f, z_not, z_kNot, z_andE, z_kAndE_t, z_kAndE_f, z_orE, z_kOrE_t, z_kOrE_f, z_ifE, z_kIfE_t, z_kIfE_f, z_frz, z_frz_v, z_seq, z_seq_nx, z_seq_rt, z_seq_bk, z_seq_ct, z_drop, z_kDrop, z_ret, z_kRet, z_retN, z_set, z_kSet, z_if, z_kIf_t, z_kIf_f, z_par, z_kPar, z_asg, z_kAsg, z_kAsg2, z_next, z_break, z_cont, z_gSet, z_for_nil, z_for_cons, z_kFor, z_kFor_nx, z_kFor_ct, z_kFor_bk, z_kFor_rt, z_forI, z_kForI, List.getElem?_cons_zero, List.getElem?_cons_succ, List.set_cons_zero, List.set_cons_succ, ix_pen2 hS, hGt_i, decide_eq_false hr0, ix_pen1 hS, hAdd_i, put1 hS (env := [some (A.loc p), some (A.val (D.int m)), none, some (A.val (D.int t)), none, none, none]) rfl, hMul_l k1, ix_pen0 hS1, hl, hNe_nil, hne, Bool.not_false, hIntC_i, hLen_l, hMod_i hpos, hx, hLt_i, decide_eq_false h1, tail, z_kDef_v, take_set]
          exact ⟨_, rfl⟩

/-! the pen made, an item picked -/
def penE : Sv := sRet (eApp hLstN (eCons (eApp hList (eCons (eSl (eVar 0) (oNone) (oSome (eC (.int 63)))) (eNil))) (eCons (eC (.int 0)) (eCons (eC (.int 0)) (eNil)))))
theorem cut63 (ns : List Int) : cutD (ns.map D.int) none (some 63) = (ns.take 63).map D.int := by
  unfold cutD
  have e1 : HT.sIx (ns.map D.int).length 0 none = 0 := rfl
  rw [e1, List.drop_zero, Nat.sub_zero, List.length_map]
  have e2 : HT.sIx ns.length ns.length (some 63) = min 63 ns.length := by
    unfold HT.sIx
    simp
  rw [e2, List.map_take]
  by_cases h : ns.length ≤ 63
  · rw [Nat.min_eq_right h, List.take_of_length_le (by simp), List.take_of_length_le (by simpa using h)]
  · rw [Nat.min_eq_left (by omega)]
theorem pen_ok {S : Store} (ns : List Int) : defF 1 penE [.val (.scr ns)] S = .ok (.loc S.length) (S ++ [some (penC (ns.take 63) 0 0)]) := by
  have est : startE 1 [.val (.scr ns)] = [some (.val (.scr ns))] := rfl
  have e1 : eSl (eVar 0) oNone (oSome (eC (.int 63))) [some (.val (.scr ns))] S = .ok (.val (.lst ((ns.take 63).map D.int))) S := by
    show (Out.ok (A.val (.lst (cutD (ns.map D.int) none (some 63)))) S) = _
    rw [cut63]
  have e2 : ∀ ds : List D, hList [.val (.lst ds)] S = .ok (.val (.lst ds)) S := fun _ => rfl
  have e3 : hLstN [.val (.lst ((ns.take 63).map D.int)), .val (.int 0), .val (.int 0)] S = .ok (.loc S.length) (S ++ [some (penC (ns.take 63) 0 0)]) := rfl
  rw [z_def, est]
  unfold penE
  simp only [z_bind_ok, z_bindS_ok, z_C, z_var, z_kVar, z_op, z_kOp, z_un, z_nil, z_cons, z_kCons, z_kCons2, z_app, z_bool, z_kBool, z_and, z_kAnd_t, z_kAnd_f, z_or, z_kOr_t, z_kOr_f, z_not, z_kNot, z_andE, z_kAndE_t, z_kAndE_f, z_orE, z_kOrE_t, z_kOrE_f, z_ifE, z_kIfE_t, z_kIfE_f, z_frz, z_frz_v, z_seq, z_seq_nx, z_seq_rt, z_seq_bk, z_seq_ct, z_drop, z_kDrop, z_ret, z_kRet, z_retN, z_set, z_kSet, z_if, z_kIf_t, z_kIf_f, z_par, z_kPar, z_asg, z_kAsg, z_kAsg2, z_next, z_break, z_cont, z_gSet, z_for_nil, z_for_cons, z_kFor, z_kFor_nx, z_kFor_ct, z_kFor_bk, z_kFor_rt, z_forI, z_kForI, List.getElem?_cons_zero, List.getElem?_cons_succ, List.set_cons_zero, List.set_cons_succ, e1, e2, e3]
  unfold kDef
  dsimp only
  rw [if_neg (Nat.lt_irrefl _), List.getElem?_append_right (Nat.le_refl _), Nat.sub_self]
  dsimp only [List.getElem?_cons_zero]
  rw [List.take_left]
def pickE (G : List A → Store → Out A) : Sv := sRet (eOp hIx (eVar 1) (eApp (callG 2 G []) (eCons (eVar 0) (eCons (eApp hLen (eCons (eVar 1) (eNil))) (eNil)))))
theorem pick_ok {c : DrawC} (hc : c.ok = true) {S : Store} {p : Nat} {cs : List Int} {t r : Int} {ds : List D} (hS : S[p]? = some (some (penC cs t r))) (ht0 : 0 ≤ t) (ht : t ≤ 1000000) (hr : 0 ≤ r) (hd0 : ds ≠ []) (hd : ds.length ≤ 1000000) :
    ∃ t' r' d, (t' = t ∨ t' = t + 1) ∧ 0 ≤ r' ∧ d ∈ ds ∧ defF 2 (pickE (defF 7 (drawE c))) [.loc p, .val (.lst ds)] S = .ok (.val d) (S.set p (some (penC cs t' r'))) := by
  have hp : 0 < ds.length := List.length_pos_iff.mpr hd0
  obtain ⟨t', r', v, h1, h2, h3, h4, e⟩ := draw_ok hc hS ht0 ht hr (m := (ds.length : Nat)) (by omega) (by omega)
  have hv : v.toNat < ds.length := by omega
  refine ⟨t', r', ds[v.toNat], h1, h2, List.getElem_mem hv, ?_⟩
  have est : startE 2 [.loc p, .val (.lst ds)] = [some (.loc p), some (.val (.lst ds))] := rfl
  have e2 : ∀ S1, hIx (.val (.lst ds)) (.val (.int v)) S1 = .ok (.val ds[v.toNat]) S1 := fun S1 => by
    have ea : L2.atI ds v = some ds[v.toNat] := by
      unfold L2.atI ixN
      rw [if_pos h3, if_pos h4]
      simp [hv]
    unfold hIx lst?
    simp only [ea]
  rw [z_def, est]
  unfold pickE
  simp only [z_bind_ok, z_bindS_ok, z_C, z_var, z_kVar, z_op, z_kOp, z_un, z_nil, z_cons, z_kCons, z_kCons2, z_app, z_bool, z_kBool, z_and, z_kAnd_t, z_kAnd_f, z_or, z_kOr_t, z_kOr_f, z_not, z_kNot, z_andE, z_kAndE_t, z_kAndE_f, z_orE, z_kOrE_t, z_kOrE_f, z_ifE, z_kIfE_t, z_kIfE_f, z_frz, z_frz_v, z_seq, z_seq_nx, z_seq_rt, z_seq_bk, z_seq_ct, z_drop, z_kDrop, z_ret, z_kRet, z_retN, z_set, z_kSet, z_if, z_kIf_t, z_kIf_f, z_par, z_kPar, z_asg, z_kAsg, z_kAsg2, z_next, z_break, z_cont, z_gSet, z_for_nil, z_for_cons, z_kFor, z_kFor_nx, z_kFor_ct, z_kFor_bk, z_kFor_rt, z_forI, z_kForI, List.getElem?_cons_zero, List.getElem?_cons_succ, List.set_cons_zero, List.set_cons_succ, hLen_l, z_call (as := [A.loc p, A.val (D.int (ds.length : Nat))]) (n := 2) rfl, e, e2, z_kDef_v, take_set]
end R


namespace Lw
open PySem L2 R
def topS (i : Nat) : Stmt := PySem.Challenge.pw_rowvault_k00_errors_and_their_fields.main.body.getD i (.Pass ⟨0, 0, 0, 0⟩)
def clsB : Stmt → List Stmt
  | .ClassDef (body := b) .. => b
  | _ => []
def mS (i j : Nat) : Stmt := (clsB (topS i)).getD j (.Pass ⟨0, 0, 0, 0⟩)
def clsNames : List Str := [("VaultError" : Str), ("BadInput" : Str), ("Refused" : Str), ("NoAnswer" : Str), ("BadShape" : Str), ("BadTable" : Str), ("BadPart" : Str), ("BadQuestion" : Str), ("BadSpan" : Str), ("BadKind" : Str), ("BadLayout" : Str), ("BadRule" : Str), ("BadPlan" : Str), ("BadOrder" : Str), ("BadVault" : Str), ("BadBook" : Str), ("BadPoly" : Str), ("BadSites" : Str), ("BadPlace" : Str), ("BadAmount" : Str), ("BadUnit" : Str), ("BadCount" : Str), ("BadName" : Str), ("BadText" : Str), ("BadLine" : Str), ("TooMany" : Str), ("Untold" : Str), ("Gone" : Str), ("Torn" : Str), ("Taken" : Str), ("NoUnit" : Str), ("NoName" : Str), ("NoDeed" : Str)]
def cls (K : PySem.W.Frag) : Nat → Addr := fun n => He.ga K (clsNames.getD n "")
def mroT : List (List Tag) := [([.o 0, .b "ValueError"] : List Tag), ([.o 1, .o 0, .b "ValueError"] : List Tag), ([.o 2, .o 0, .b "ValueError"] : List Tag), ([.o 3, .o 0, .b "ValueError"] : List Tag), ([.o 4, .o 1, .o 0, .b "ValueError"] : List Tag), ([.o 5, .o 1, .o 0, .b "ValueError"] : List Tag), ([.o 6, .o 1, .o 0, .b "ValueError"] : List Tag), ([.o 7, .o 1, .o 0, .b "ValueError"] : List Tag), ([.o 8, .o 1, .o 0, .b "ValueError"] : List Tag), ([.o 9, .o 1, .o 0, .b "ValueError"] : List Tag), ([.o 10, .o 1, .o 0, .b "ValueError"] : List Tag), ([.o 11, .o 1, .o 0, .b "ValueError"] : List Tag), ([.o 12, .o 1, .o 0, .b "ValueError"] : List Tag), ([.o 13, .o 1, .o 0, .b "ValueError"] : List Tag), ([.o 14, .o 1, .o 0, .b "ValueError"] : List Tag), ([.o 15, .o 1, .o 0, .b "ValueError"] : List Tag), ([.o 16, .o 1, .o 0, .b "ValueError"] : List Tag), ([.o 17, .o 1, .o 0, .b "ValueError"] : List Tag), ([.o 18, .o 1, .o 0, .b "ValueError"] : List Tag), ([.o 19, .o 1, .o 0, .b "ValueError"] : List Tag), ([.o 20, .o 1, .o 0, .b "ValueError"] : List Tag), ([.o 21, .o 1, .o 0, .b "ValueError"] : List Tag), ([.o 22, .o 1, .o 0, .b "ValueError"] : List Tag), ([.o 23, .o 1, .o 0, .b "ValueError"] : List Tag), ([.o 24, .o 1, .o 0, .b "ValueError"] : List Tag), ([.o 25, .o 2, .o 0, .b "ValueError"] : List Tag), ([.o 26, .o 2, .o 0, .b "ValueError"] : List Tag), ([.o 27, .o 2, .o 0, .b "ValueError"] : List Tag), ([.o 28, .o 2, .o 0, .b "ValueError"] : List Tag), ([.o 29, .o 2, .o 0, .b "ValueError"] : List Tag), ([.o 30, .o 3, .o 0, .b "ValueError"] : List Tag), ([.o 31, .o 3, .o 0, .b "ValueError"] : List Tag), ([.o 32, .o 3, .o 0, .b "ValueError"] : List Tag)]
def fldT : List (List Str) := [([] : List Str), ([] : List Str), ([] : List Str), ([] : List Str), (["part"] : List Str), (["part"] : List Str), (["part"] : List Str), (["part"] : List Str), (["part"] : List Str), (["part"] : List Str), (["part"] : List Str), (["part"] : List Str), (["part"] : List Str), (["part"] : List Str), (["part"] : List Str), (["part"] : List Str), (["part"] : List Str), (["part"] : List Str), (["value"] : List Str), (["value"] : List Str), (["value"] : List Str), (["value"] : List Str), (["value"] : List Str), (["line", "word"] : List Str), (["word"] : List Str), (["what", "most"] : List Str), (["paper"] : List Str), (["unit"] : List Str), ([] : List Str), (["name"] : List Str), (["unit"] : List Str), (["name"] : List Str), ([] : List Str)]
def excT : List Bool := [true, true, true, true, true, true, true, true, true, true, true, true, true, true, true, true, true, true, true, true, true, true, true, true, true, true, true, true, true, true, true, true, true]
def ct : CtT := ⟨33, fun c => mroT.getD c [], fun c => excT.getD c false, fun c => fldT.getD c []⟩
def mkB (K : PySem.W.Frag) (c : Nat) : Bool := oexB K (cls K c) && (decide (PySem.W.findIn K (.ref (cls K c)) "__init__" = some (some (.ref (He.fAd K (clsNames.getD c "", some "__init__"))))) && decide (PySem.W.typeIn K (.ref (He.fAd K (clsNames.getD c "", some "__init__"))) = some (.type "function")))
def made : List Nat := [5, 4, 6, 8, 7, 9, 11, 10, 12, 14, 13, 15, 17, 16, 19, 18, 20, 22, 21, 24, 26, 27, 29, 30, 31, 23, 25]
def zero : List Nat := [0, 1, 2, 3, 28, 32]
def fn : List He.DefD := [(⟨("_law_pen", none), "_law_pen", "_law_pen", defArgs (topS 35), defBody (topS 35), defScope (topS 35), [], []⟩ : He.DefD),
  (⟨("_law_signs", none), "_law_signs", "_law_signs", defArgs (topS 39), defBody (topS 39), defScope (topS 39), [], []⟩ : He.DefD),
  (⟨("_law_kinds", none), "_law_kinds", "_law_kinds", defArgs (topS 40), defBody (topS 40), defScope (topS 40), [], []⟩ : He.DefD),
  (⟨("_law_draw", none), "_law_draw", "_law_draw", defArgs (topS 36), defBody (topS 36), defScope (topS 36), [], []⟩ : He.DefD),
  (⟨("_law_pick", none), "_law_pick", "_law_pick", defArgs (topS 37), defBody (topS 37), defScope (topS 37), [], []⟩ : He.DefD),
  (⟨("_law_value", none), "_law_value", "_law_value", defArgs (topS 38), defBody (topS 38), defScope (topS 38), [], []⟩ : He.DefD),
  (⟨("_law_parted", none), "_law_parted", "_law_parted", defArgs (topS 41), defBody (topS 41), defScope (topS 41), [], []⟩ : He.DefD),
  (⟨("_law_valued", none), "_law_valued", "_law_valued", defArgs (topS 42), defBody (topS 42), defScope (topS 42), [], []⟩ : He.DefD),
  (⟨("_law_pairs_right", none), "_law_pairs_right", "_law_pairs_right", defArgs (topS 43), defBody (topS 43), defScope (topS 43), [], []⟩ : He.DefD),
  (⟨("law", none), "law", "law", defArgs (topS 44), defBody (topS 44), defScope (topS 44), [], []⟩ : He.DefD),
  (⟨("BadTable", some "__init__"), "__init__", "BadTable.__init__", defArgs (mS 6 0), defBody (mS 6 0), defScope (mS 6 0), [], []⟩ : He.DefD),
  (⟨("BadShape", some "__init__"), "__init__", "BadShape.__init__", defArgs (mS 5 0), defBody (mS 5 0), defScope (mS 5 0), [], []⟩ : He.DefD),
  (⟨("BadPart", some "__init__"), "__init__", "BadPart.__init__", defArgs (mS 7 0), defBody (mS 7 0), defScope (mS 7 0), [], []⟩ : He.DefD),
  (⟨("BadSpan", some "__init__"), "__init__", "BadSpan.__init__", defArgs (mS 9 0), defBody (mS 9 0), defScope (mS 9 0), [], []⟩ : He.DefD),
  (⟨("BadQuestion", some "__init__"), "__init__", "BadQuestion.__init__", defArgs (mS 8 0), defBody (mS 8 0), defScope (mS 8 0), [], []⟩ : He.DefD),
  (⟨("BadKind", some "__init__"), "__init__", "BadKind.__init__", defArgs (mS 10 0), defBody (mS 10 0), defScope (mS 10 0), [], []⟩ : He.DefD),
  (⟨("BadRule", some "__init__"), "__init__", "BadRule.__init__", defArgs (mS 12 0), defBody (mS 12 0), defScope (mS 12 0), [], []⟩ : He.DefD),
  (⟨("BadLayout", some "__init__"), "__init__", "BadLayout.__init__", defArgs (mS 11 0), defBody (mS 11 0), defScope (mS 11 0), [], []⟩ : He.DefD),
  (⟨("BadPlan", some "__init__"), "__init__", "BadPlan.__init__", defArgs (mS 13 0), defBody (mS 13 0), defScope (mS 13 0), [], []⟩ : He.DefD),
  (⟨("BadVault", some "__init__"), "__init__", "BadVault.__init__", defArgs (mS 15 0), defBody (mS 15 0), defScope (mS 15 0), [], []⟩ : He.DefD),
  (⟨("BadOrder", some "__init__"), "__init__", "BadOrder.__init__", defArgs (mS 14 0), defBody (mS 14 0), defScope (mS 14 0), [], []⟩ : He.DefD),
  (⟨("BadBook", some "__init__"), "__init__", "BadBook.__init__", defArgs (mS 16 0), defBody (mS 16 0), defScope (mS 16 0), [], []⟩ : He.DefD),
  (⟨("BadSites", some "__init__"), "__init__", "BadSites.__init__", defArgs (mS 18 0), defBody (mS 18 0), defScope (mS 18 0), [], []⟩ : He.DefD),
  (⟨("BadPoly", some "__init__"), "__init__", "BadPoly.__init__", defArgs (mS 17 0), defBody (mS 17 0), defScope (mS 17 0), [], []⟩ : He.DefD),
  (⟨("BadAmount", some "__init__"), "__init__", "BadAmount.__init__", defArgs (mS 20 0), defBody (mS 20 0), defScope (mS 20 0), [], []⟩ : He.DefD),
  (⟨("BadPlace", some "__init__"), "__init__", "BadPlace.__init__", defArgs (mS 19 0), defBody (mS 19 0), defScope (mS 19 0), [], []⟩ : He.DefD),
  (⟨("BadUnit", some "__init__"), "__init__", "BadUnit.__init__", defArgs (mS 21 0), defBody (mS 21 0), defScope (mS 21 0), [], []⟩ : He.DefD),
  (⟨("BadName", some "__init__"), "__init__", "BadName.__init__", defArgs (mS 23 0), defBody (mS 23 0), defScope (mS 23 0), [], []⟩ : He.DefD),
  (⟨("BadCount", some "__init__"), "__init__", "BadCount.__init__", defArgs (mS 22 0), defBody (mS 22 0), defScope (mS 22 0), [], []⟩ : He.DefD),
  (⟨("BadLine", some "__init__"), "__init__", "BadLine.__init__", defArgs (mS 25 0), defBody (mS 25 0), defScope (mS 25 0), [], []⟩ : He.DefD),
  (⟨("Untold", some "__init__"), "__init__", "Untold.__init__", defArgs (mS 27 0), defBody (mS 27 0), defScope (mS 27 0), [], []⟩ : He.DefD),
  (⟨("Gone", some "__init__"), "__init__", "Gone.__init__", defArgs (mS 28 0), defBody (mS 28 0), defScope (mS 28 0), [], []⟩ : He.DefD),
  (⟨("Taken", some "__init__"), "__init__", "Taken.__init__", defArgs (mS 30 0), defBody (mS 30 0), defScope (mS 30 0), [], []⟩ : He.DefD),
  (⟨("NoUnit", some "__init__"), "__init__", "NoUnit.__init__", defArgs (mS 31 0), defBody (mS 31 0), defScope (mS 31 0), [], []⟩ : He.DefD),
  (⟨("NoName", some "__init__"), "__init__", "NoName.__init__", defArgs (mS 32 0), defBody (mS 32 0), defScope (mS 32 0), [], []⟩ : He.DefD),
  (⟨("BadText", some "__init__"), "__init__", "BadText.__init__", defArgs (mS 24 0), defBody (mS 24 0), defScope (mS 24 0), [], []⟩ : He.DefD),
  (⟨("TooMany", some "__init__"), "__init__", "TooMany.__init__", defArgs (mS 26 0), defBody (mS 26 0), defScope (mS 26 0), [], []⟩ : He.DefD)]
def fa : List He.Fa := [(.free "list" : He.Fa), (.glo "Refused" : He.Fa), (.free "isinstance" : He.Fa), (.glo "BadInput" : He.Fa), (.glo "BadAmount" : He.Fa), (.glo "NoAnswer" : He.Fa), (.glo "BadCount" : He.Fa), (.glo "BadBook" : He.Fa), (.glo "BadLayout" : He.Fa), (.glo "BadKind" : He.Fa), (.glo "BadName" : He.Fa), (.glo "BadLine" : He.Fa), (.glo "BadPart" : He.Fa), (.glo "BadOrder" : He.Fa), (.glo "BadPlan" : He.Fa), (.glo "BadPlace" : He.Fa), (.glo "BadRule" : He.Fa), (.glo "BadQuestion" : He.Fa), (.glo "BadSpan" : He.Fa), (.glo "BadShape" : He.Fa), (.glo "BadText" : He.Fa), (.glo "BadTable" : He.Fa), (.glo "BadVault" : He.Fa), (.glo "BadUnit" : He.Fa), (.glo "Taken" : He.Fa), (.glo "Gone" : He.Fa), (.glo "Torn" : He.Fa), (.glo "TooMany" : He.Fa), (.glo "NoDeed" : He.Fa), (.glo "Untold" : He.Fa), (.glo "BadSites" : He.Fa), (.glo "BadPoly" : He.Fa), (.glo "NoUnit" : He.Fa), (.glo "NoName" : He.Fa), (.glo "VaultError" : He.Fa), (.glo "_law_signs" : He.Fa), (.free "int" : He.Fa), (.free "len" : He.Fa), (.free "abs" : He.Fa), (.glo "_law_draw" : He.Fa), (.glo "_law_pick" : He.Fa), (.glo "_law_kinds" : He.Fa), (.free "repr" : He.Fa), (.glo "_law_pen" : He.Fa), (.free "range" : He.Fa), (.glo "_law_value" : He.Fa), (.glo "_law_parted" : He.Fa), (.glo "_law_valued" : He.Fa), (.glo "_law_pairs_right" : He.Fa), (.free "ValueError" : He.Fa), (.glo "law" : He.Fa)]
def ex : PySem.W.Frag → Bool := fun K => (K.lookup sysModules).isNone && (ctB ct cls K && ((made.all fun c => mkB K c) && zero.all fun c => ex0B K (cls K c)))
abbrev TX (K : PySem.W.Frag) (mg : Str → Option Value) : Prop := Tx fa fn ex K mg
section
variable {P : Program} {w : World} {K : PySem.W.Frag} {mg : Str → Option Value} {base : Heap}
theorem ex_sm (T : TX K mg) : K.lookup sysModules = none := Option.isNone_iff_eq_none.mp (Bool.and_eq_true_iff.mp T.c.more).1
theorem ct_ok (T : TX K mg) : CtOk ct K (cls K) := ctB_ok (Bool.and_eq_true_iff.mp (Bool.and_eq_true_iff.mp T.c.more).2).1
theorem mk_ok (T : TX K mg) (c : Nat) (hc : c ∈ made) : OexC K (cls K c) ∧ PySem.W.findIn K (.ref (cls K c)) "__init__" = some (some (.ref (He.fAd K (clsNames.getD c "", some "__init__")))) ∧ PySem.W.typeIn K (.ref (He.fAd K (clsNames.getD c "", some "__init__"))) = some (.type "function") := by
  have h := List.all_eq_true.mp (Bool.and_eq_true_iff.mp (Bool.and_eq_true_iff.mp (Bool.and_eq_true_iff.mp T.c.more).2).2).1 c hc
  obtain ⟨h1, h⟩ := Bool.and_eq_true_iff.mp h
  obtain ⟨h2, h3⟩ := Bool.and_eq_true_iff.mp h
  exact ⟨oexB_ok h1, of_decide_eq_true h2, of_decide_eq_true h3⟩
theorem zero_ok (T : TX K mg) (c : Nat) (hc : c ∈ zero) : Ex0 K (cls K c) := ex0B_ok (List.all_eq_true.mp (Bool.and_eq_true_iff.mp (Bool.and_eq_true_iff.mp (Bool.and_eq_true_iff.mp T.c.more).2).2).2 c hc)
theorem scI_BadTable : FnScope ["self", "part"] ["self", "part"] (defScope (mS 6 0)) := ⟨rfl, rfl, rfl, by decide +kernel, rfl, by decide +kernel, by decide +kernel⟩
theorem mk_BadTable (T : TX K mg) : ExR P w K mg base (cls K 5) ["part"] [(["part"], [0])] := by
  obtain ⟨fd, F⟩ := T.c.def_ 10
  obtain ⟨h1, h2, h3⟩ := mk_ok T 5 (by decide)
  refine ⟨⟨_, fd, ["self", "part"], h1, h2, h3, F.bindsN (fun _ _ _ _ _ _ us hl => match us, hl with | [_, _], _ => rfl), rfl, okX1 F scI_BadTable h1 ((ct_ok T).noat 5 (by decide) "part" (by decide)) fun cdv A outer s H E => pss_one (ps_ost (pe_var (i := 0) rfl (Or.inl rfl)) (pe_var (i := 1) rfl (Or.inl rfl))), ?_⟩, by decide, by decide⟩
  exact fun b hb => by
    rcases List.mem_cons.mp hb with rfl | hb
    · exact FunD.kwB (ps := ["self", "part"]) F fun _ _ _ _ _ _ self ws hl => match ws, hl with | [_], _ => rfl
    cases hb
theorem scI_BadShape : FnScope ["self", "part"] ["self", "part"] (defScope (mS 5 0)) := ⟨rfl, rfl, rfl, by decide +kernel, rfl, by decide +kernel, by decide +kernel⟩
theorem mk_BadShape (T : TX K mg) : ExR P w K mg base (cls K 4) ["part"] [(["part"], [0])] := by
  obtain ⟨fd, F⟩ := T.c.def_ 11
  obtain ⟨h1, h2, h3⟩ := mk_ok T 4 (by decide)
  refine ⟨⟨_, fd, ["self", "part"], h1, h2, h3, F.bindsN (fun _ _ _ _ _ _ us hl => match us, hl with | [_, _], _ => rfl), rfl, okX1 F scI_BadShape h1 ((ct_ok T).noat 4 (by decide) "part" (by decide)) fun cdv A outer s H E => pss_one (ps_ost (pe_var (i := 0) rfl (Or.inl rfl)) (pe_var (i := 1) rfl (Or.inl rfl))), ?_⟩, by decide, by decide⟩
  exact fun b hb => by
    rcases List.mem_cons.mp hb with rfl | hb
    · exact FunD.kwB (ps := ["self", "part"]) F fun _ _ _ _ _ _ self ws hl => match ws, hl with | [_], _ => rfl
    cases hb
theorem scI_BadPart : FnScope ["self", "part"] ["self", "part"] (defScope (mS 7 0)) := ⟨rfl, rfl, rfl, by decide +kernel, rfl, by decide +kernel, by decide +kernel⟩
theorem mk_BadPart (T : TX K mg) : ExR P w K mg base (cls K 6) ["part"] [(["part"], [0])] := by
  obtain ⟨fd, F⟩ := T.c.def_ 12
  obtain ⟨h1, h2, h3⟩ := mk_ok T 6 (by decide)
  refine ⟨⟨_, fd, ["self", "part"], h1, h2, h3, F.bindsN (fun _ _ _ _ _ _ us hl => match us, hl with | [_, _], _ => rfl), rfl, okX1 F scI_BadPart h1 ((ct_ok T).noat 6 (by decide) "part" (by decide)) fun cdv A outer s H E => pss_one (ps_ost (pe_var (i := 0) rfl (Or.inl rfl)) (pe_var (i := 1) rfl (Or.inl rfl))), ?_⟩, by decide, by decide⟩
  exact fun b hb => by
    rcases List.mem_cons.mp hb with rfl | hb
    · exact FunD.kwB (ps := ["self", "part"]) F fun _ _ _ _ _ _ self ws hl => match ws, hl with | [_], _ => rfl
    cases hb
theorem scI_BadSpan : FnScope ["self", "part"] ["self", "part"] (defScope (mS 9 0)) := ⟨rfl, rfl, rfl, by decide +kernel, rfl, by decide +kernel, by decide +kernel⟩
theorem mk_BadSpan (T : TX K mg) : ExR P w K mg base (cls K 8) ["part"] [(["part"], [0])] := by
  obtain ⟨fd, F⟩ := T.c.def_ 13
  obtain ⟨h1, h2, h3⟩ := mk_ok T 8 (by decide)
  refine ⟨⟨_, fd, ["self", "part"], h1, h2, h3, F.bindsN (fun _ _ _ _ _ _ us hl => match us, hl with | [_, _], _ => rfl), rfl, okX1 F scI_BadSpan h1 ((ct_ok T).noat 8 (by decide) "part" (by decide)) fun cdv A outer s H E => pss_one (ps_ost (pe_var (i := 0) rfl (Or.inl rfl)) (pe_var (i := 1) rfl (Or.inl rfl))), ?_⟩, by decide, by decide⟩
  exact fun b hb => by
    rcases List.mem_cons.mp hb with rfl | hb
    · exact FunD.kwB (ps := ["self", "part"]) F fun _ _ _ _ _ _ self ws hl => match ws, hl with | [_], _ => rfl
    cases hb
theorem scI_BadQuestion : FnScope ["self", "part"] ["self", "part"] (defScope (mS 8 0)) := ⟨rfl, rfl, rfl, by decide +kernel, rfl, by decide +kernel, by decide +kernel⟩
theorem mk_BadQuestion (T : TX K mg) : ExR P w K mg base (cls K 7) ["part"] [(["part"], [0])] := by
  obtain ⟨fd, F⟩ := T.c.def_ 14
  obtain ⟨h1, h2, h3⟩ := mk_ok T 7 (by decide)
  refine ⟨⟨_, fd, ["self", "part"], h1, h2, h3, F.bindsN (fun _ _ _ _ _ _ us hl => match us, hl with | [_, _], _ => rfl), rfl, okX1 F scI_BadQuestion h1 ((ct_ok T).noat 7 (by decide) "part" (by decide)) fun cdv A outer s H E => pss_one (ps_ost (pe_var (i := 0) rfl (Or.inl rfl)) (pe_var (i := 1) rfl (Or.inl rfl))), ?_⟩, by decide, by decide⟩
  exact fun b hb => by
    rcases List.mem_cons.mp hb with rfl | hb
    · exact FunD.kwB (ps := ["self", "part"]) F fun _ _ _ _ _ _ self ws hl => match ws, hl with | [_], _ => rfl
    cases hb
theorem scI_BadKind : FnScope ["self", "part"] ["self", "part"] (defScope (mS 10 0)) := ⟨rfl, rfl, rfl, by decide +kernel, rfl, by decide +kernel, by decide +kernel⟩
theorem mk_BadKind (T : TX K mg) : ExR P w K mg base (cls K 9) ["part"] [(["part"], [0])] := by
  obtain ⟨fd, F⟩ := T.c.def_ 15
  obtain ⟨h1, h2, h3⟩ := mk_ok T 9 (by decide)
  refine ⟨⟨_, fd, ["self", "part"], h1, h2, h3, F.bindsN (fun _ _ _ _ _ _ us hl => match us, hl with | [_, _], _ => rfl), rfl, okX1 F scI_BadKind h1 ((ct_ok T).noat 9 (by decide) "part" (by decide)) fun cdv A outer s H E => pss_one (ps_ost (pe_var (i := 0) rfl (Or.inl rfl)) (pe_var (i := 1) rfl (Or.inl rfl))), ?_⟩, by decide, by decide⟩
  exact fun b hb => by
    rcases List.mem_cons.mp hb with rfl | hb
    · exact FunD.kwB (ps := ["self", "part"]) F fun _ _ _ _ _ _ self ws hl => match ws, hl with | [_], _ => rfl
    cases hb
theorem scI_BadRule : FnScope ["self", "part"] ["self", "part"] (defScope (mS 12 0)) := ⟨rfl, rfl, rfl, by decide +kernel, rfl, by decide +kernel, by decide +kernel⟩
theorem mk_BadRule (T : TX K mg) : ExR P w K mg base (cls K 11) ["part"] [(["part"], [0])] := by
  obtain ⟨fd, F⟩ := T.c.def_ 16
  obtain ⟨h1, h2, h3⟩ := mk_ok T 11 (by decide)
  refine ⟨⟨_, fd, ["self", "part"], h1, h2, h3, F.bindsN (fun _ _ _ _ _ _ us hl => match us, hl with | [_, _], _ => rfl), rfl, okX1 F scI_BadRule h1 ((ct_ok T).noat 11 (by decide) "part" (by decide)) fun cdv A outer s H E => pss_one (ps_ost (pe_var (i := 0) rfl (Or.inl rfl)) (pe_var (i := 1) rfl (Or.inl rfl))), ?_⟩, by decide, by decide⟩
  exact fun b hb => by
    rcases List.mem_cons.mp hb with rfl | hb
    · exact FunD.kwB (ps := ["self", "part"]) F fun _ _ _ _ _ _ self ws hl => match ws, hl with | [_], _ => rfl
    cases hb
theorem scI_BadLayout : FnScope ["self", "part"] ["self", "part"] (defScope (mS 11 0)) := ⟨rfl, rfl, rfl, by decide +kernel, rfl, by decide +kernel, by decide +kernel⟩
theorem mk_BadLayout (T : TX K mg) : ExR P w K mg base (cls K 10) ["part"] [(["part"], [0])] := by
  obtain ⟨fd, F⟩ := T.c.def_ 17
  obtain ⟨h1, h2, h3⟩ := mk_ok T 10 (by decide)
  refine ⟨⟨_, fd, ["self", "part"], h1, h2, h3, F.bindsN (fun _ _ _ _ _ _ us hl => match us, hl with | [_, _], _ => rfl), rfl, okX1 F scI_BadLayout h1 ((ct_ok T).noat 10 (by decide) "part" (by decide)) fun cdv A outer s H E => pss_one (ps_ost (pe_var (i := 0) rfl (Or.inl rfl)) (pe_var (i := 1) rfl (Or.inl rfl))), ?_⟩, by decide, by decide⟩
  exact fun b hb => by
    rcases List.mem_cons.mp hb with rfl | hb
    · exact FunD.kwB (ps := ["self", "part"]) F fun _ _ _ _ _ _ self ws hl => match ws, hl with | [_], _ => rfl
    cases hb
theorem scI_BadPlan : FnScope ["self", "part"] ["self", "part"] (defScope (mS 13 0)) := ⟨rfl, rfl, rfl, by decide +kernel, rfl, by decide +kernel, by decide +kernel⟩
theorem mk_BadPlan (T : TX K mg) : ExR P w K mg base (cls K 12) ["part"] [(["part"], [0])] := by
  obtain ⟨fd, F⟩ := T.c.def_ 18
  obtain ⟨h1, h2, h3⟩ := mk_ok T 12 (by decide)
  refine ⟨⟨_, fd, ["self", "part"], h1, h2, h3, F.bindsN (fun _ _ _ _ _ _ us hl => match us, hl with | [_, _], _ => rfl), rfl, okX1 F scI_BadPlan h1 ((ct_ok T).noat 12 (by decide) "part" (by decide)) fun cdv A outer s H E => pss_one (ps_ost (pe_var (i := 0) rfl (Or.inl rfl)) (pe_var (i := 1) rfl (Or.inl rfl))), ?_⟩, by decide, by decide⟩
  exact fun b hb => by
    rcases List.mem_cons.mp hb with rfl | hb
    · exact FunD.kwB (ps := ["self", "part"]) F fun _ _ _ _ _ _ self ws hl => match ws, hl with | [_], _ => rfl
    cases hb
theorem scI_BadVault : FnScope ["self", "part"] ["self", "part"] (defScope (mS 15 0)) := ⟨rfl, rfl, rfl, by decide +kernel, rfl, by decide +kernel, by decide +kernel⟩
theorem mk_BadVault (T : TX K mg) : ExR P w K mg base (cls K 14) ["part"] [(["part"], [0])] := by
  obtain ⟨fd, F⟩ := T.c.def_ 19
  obtain ⟨h1, h2, h3⟩ := mk_ok T 14 (by decide)
  refine ⟨⟨_, fd, ["self", "part"], h1, h2, h3, F.bindsN (fun _ _ _ _ _ _ us hl => match us, hl with | [_, _], _ => rfl), rfl, okX1 F scI_BadVault h1 ((ct_ok T).noat 14 (by decide) "part" (by decide)) fun cdv A outer s H E => pss_one (ps_ost (pe_var (i := 0) rfl (Or.inl rfl)) (pe_var (i := 1) rfl (Or.inl rfl))), ?_⟩, by decide, by decide⟩
  exact fun b hb => by
    rcases List.mem_cons.mp hb with rfl | hb
    · exact FunD.kwB (ps := ["self", "part"]) F fun _ _ _ _ _ _ self ws hl => match ws, hl with | [_], _ => rfl
    cases hb
theorem scI_BadOrder : FnScope ["self", "part"] ["self", "part"] (defScope (mS 14 0)) := ⟨rfl, rfl, rfl, by decide +kernel, rfl, by decide +kernel, by decide +kernel⟩
theorem mk_BadOrder (T : TX K mg) : ExR P w K mg base (cls K 13) ["part"] [(["part"], [0])] := by
  obtain ⟨fd, F⟩ := T.c.def_ 20
  obtain ⟨h1, h2, h3⟩ := mk_ok T 13 (by decide)
  refine ⟨⟨_, fd, ["self", "part"], h1, h2, h3, F.bindsN (fun _ _ _ _ _ _ us hl => match us, hl with | [_, _], _ => rfl), rfl, okX1 F scI_BadOrder h1 ((ct_ok T).noat 13 (by decide) "part" (by decide)) fun cdv A outer s H E => pss_one (ps_ost (pe_var (i := 0) rfl (Or.inl rfl)) (pe_var (i := 1) rfl (Or.inl rfl))), ?_⟩, by decide, by decide⟩
  exact fun b hb => by
    rcases List.mem_cons.mp hb with rfl | hb
    · exact FunD.kwB (ps := ["self", "part"]) F fun _ _ _ _ _ _ self ws hl => match ws, hl with | [_], _ => rfl
    cases hb
theorem scI_BadBook : FnScope ["self", "part"] ["self", "part"] (defScope (mS 16 0)) := ⟨rfl, rfl, rfl, by decide +kernel, rfl, by decide +kernel, by decide +kernel⟩
theorem mk_BadBook (T : TX K mg) : ExR P w K mg base (cls K 15) ["part"] [(["part"], [0])] := by
  obtain ⟨fd, F⟩ := T.c.def_ 21
  obtain ⟨h1, h2, h3⟩ := mk_ok T 15 (by decide)
  refine ⟨⟨_, fd, ["self", "part"], h1, h2, h3, F.bindsN (fun _ _ _ _ _ _ us hl => match us, hl with | [_, _], _ => rfl), rfl, okX1 F scI_BadBook h1 ((ct_ok T).noat 15 (by decide) "part" (by decide)) fun cdv A outer s H E => pss_one (ps_ost (pe_var (i := 0) rfl (Or.inl rfl)) (pe_var (i := 1) rfl (Or.inl rfl))), ?_⟩, by decide, by decide⟩
  exact fun b hb => by
    rcases List.mem_cons.mp hb with rfl | hb
    · exact FunD.kwB (ps := ["self", "part"]) F fun _ _ _ _ _ _ self ws hl => match ws, hl with | [_], _ => rfl
    cases hb
theorem scI_BadSites : FnScope ["self", "part"] ["self", "part"] (defScope (mS 18 0)) := ⟨rfl, rfl, rfl, by decide +kernel, rfl, by decide +kernel, by decide +kernel⟩
theorem mk_BadSites (T : TX K mg) : ExR P w K mg base (cls K 17) ["part"] [(["part"], [0])] := by
  obtain ⟨fd, F⟩ := T.c.def_ 22
  obtain ⟨h1, h2, h3⟩ := mk_ok T 17 (by decide)
  refine ⟨⟨_, fd, ["self", "part"], h1, h2, h3, F.bindsN (fun _ _ _ _ _ _ us hl => match us, hl with | [_, _], _ => rfl), rfl, okX1 F scI_BadSites h1 ((ct_ok T).noat 17 (by decide) "part" (by decide)) fun cdv A outer s H E => pss_one (ps_ost (pe_var (i := 0) rfl (Or.inl rfl)) (pe_var (i := 1) rfl (Or.inl rfl))), ?_⟩, by decide, by decide⟩
  exact fun b hb => by
    rcases List.mem_cons.mp hb with rfl | hb
    · exact FunD.kwB (ps := ["self", "part"]) F fun _ _ _ _ _ _ self ws hl => match ws, hl with | [_], _ => rfl
    cases hb
theorem scI_BadPoly : FnScope ["self", "part"] ["self", "part"] (defScope (mS 17 0)) := ⟨rfl, rfl, rfl, by decide +kernel, rfl, by decide +kernel, by decide +kernel⟩
theorem mk_BadPoly (T : TX K mg) : ExR P w K mg base (cls K 16) ["part"] [(["part"], [0])] := by
  obtain ⟨fd, F⟩ := T.c.def_ 23
  obtain ⟨h1, h2, h3⟩ := mk_ok T 16 (by decide)
  refine ⟨⟨_, fd, ["self", "part"], h1, h2, h3, F.bindsN (fun _ _ _ _ _ _ us hl => match us, hl with | [_, _], _ => rfl), rfl, okX1 F scI_BadPoly h1 ((ct_ok T).noat 16 (by decide) "part" (by decide)) fun cdv A outer s H E => pss_one (ps_ost (pe_var (i := 0) rfl (Or.inl rfl)) (pe_var (i := 1) rfl (Or.inl rfl))), ?_⟩, by decide, by decide⟩
  exact fun b hb => by
    rcases List.mem_cons.mp hb with rfl | hb
    · exact FunD.kwB (ps := ["self", "part"]) F fun _ _ _ _ _ _ self ws hl => match ws, hl with | [_], _ => rfl
    cases hb
theorem scI_BadAmount : FnScope ["self", "value"] ["self", "value"] (defScope (mS 20 0)) := ⟨rfl, rfl, rfl, by decide +kernel, rfl, by decide +kernel, by decide +kernel⟩
theorem mk_BadAmount (T : TX K mg) : ExR P w K mg base (cls K 19) ["value"] [(["value"], [0])] := by
  obtain ⟨fd, F⟩ := T.c.def_ 24
  obtain ⟨h1, h2, h3⟩ := mk_ok T 19 (by decide)
  refine ⟨⟨_, fd, ["self", "value"], h1, h2, h3, F.bindsN (fun _ _ _ _ _ _ us hl => match us, hl with | [_, _], _ => rfl), rfl, okX1 F scI_BadAmount h1 ((ct_ok T).noat 19 (by decide) "value" (by decide)) fun cdv A outer s H E => pss_one (ps_ost (pe_var (i := 0) rfl (Or.inl rfl)) (pe_var (i := 1) rfl (Or.inl rfl))), ?_⟩, by decide, by decide⟩
  exact fun b hb => by
    rcases List.mem_cons.mp hb with rfl | hb
    · exact FunD.kwB (ps := ["self", "value"]) F fun _ _ _ _ _ _ self ws hl => match ws, hl with | [_], _ => rfl
    cases hb
theorem scI_BadPlace : FnScope ["self", "value"] ["self", "value"] (defScope (mS 19 0)) := ⟨rfl, rfl, rfl, by decide +kernel, rfl, by decide +kernel, by decide +kernel⟩
theorem mk_BadPlace (T : TX K mg) : ExR P w K mg base (cls K 18) ["value"] [(["value"], [0])] := by
  obtain ⟨fd, F⟩ := T.c.def_ 25
  obtain ⟨h1, h2, h3⟩ := mk_ok T 18 (by decide)
  refine ⟨⟨_, fd, ["self", "value"], h1, h2, h3, F.bindsN (fun _ _ _ _ _ _ us hl => match us, hl with | [_, _], _ => rfl), rfl, okX1 F scI_BadPlace h1 ((ct_ok T).noat 18 (by decide) "value" (by decide)) fun cdv A outer s H E => pss_one (ps_ost (pe_var (i := 0) rfl (Or.inl rfl)) (pe_var (i := 1) rfl (Or.inl rfl))), ?_⟩, by decide, by decide⟩
  exact fun b hb => by
    rcases List.mem_cons.mp hb with rfl | hb
    · exact FunD.kwB (ps := ["self", "value"]) F fun _ _ _ _ _ _ self ws hl => match ws, hl with | [_], _ => rfl
    cases hb
theorem scI_BadUnit : FnScope ["self", "value"] ["self", "value"] (defScope (mS 21 0)) := ⟨rfl, rfl, rfl, by decide +kernel, rfl, by decide +kernel, by decide +kernel⟩
theorem mk_BadUnit (T : TX K mg) : ExR P w K mg base (cls K 20) ["value"] [(["value"], [0])] := by
  obtain ⟨fd, F⟩ := T.c.def_ 26
  obtain ⟨h1, h2, h3⟩ := mk_ok T 20 (by decide)
  refine ⟨⟨_, fd, ["self", "value"], h1, h2, h3, F.bindsN (fun _ _ _ _ _ _ us hl => match us, hl with | [_, _], _ => rfl), rfl, okX1 F scI_BadUnit h1 ((ct_ok T).noat 20 (by decide) "value" (by decide)) fun cdv A outer s H E => pss_one (ps_ost (pe_var (i := 0) rfl (Or.inl rfl)) (pe_var (i := 1) rfl (Or.inl rfl))), ?_⟩, by decide, by decide⟩
  exact fun b hb => by
    rcases List.mem_cons.mp hb with rfl | hb
    · exact FunD.kwB (ps := ["self", "value"]) F fun _ _ _ _ _ _ self ws hl => match ws, hl with | [_], _ => rfl
    cases hb
theorem scI_BadName : FnScope ["self", "value"] ["self", "value"] (defScope (mS 23 0)) := ⟨rfl, rfl, rfl, by decide +kernel, rfl, by decide +kernel, by decide +kernel⟩
theorem mk_BadName (T : TX K mg) : ExR P w K mg base (cls K 22) ["value"] [(["value"], [0])] := by
  obtain ⟨fd, F⟩ := T.c.def_ 27
  obtain ⟨h1, h2, h3⟩ := mk_ok T 22 (by decide)
  refine ⟨⟨_, fd, ["self", "value"], h1, h2, h3, F.bindsN (fun _ _ _ _ _ _ us hl => match us, hl with | [_, _], _ => rfl), rfl, okX1 F scI_BadName h1 ((ct_ok T).noat 22 (by decide) "value" (by decide)) fun cdv A outer s H E => pss_one (ps_ost (pe_var (i := 0) rfl (Or.inl rfl)) (pe_var (i := 1) rfl (Or.inl rfl))), ?_⟩, by decide, by decide⟩
  exact fun b hb => by
    rcases List.mem_cons.mp hb with rfl | hb
    · exact FunD.kwB (ps := ["self", "value"]) F fun _ _ _ _ _ _ self ws hl => match ws, hl with | [_], _ => rfl
    cases hb
theorem scI_BadCount : FnScope ["self", "value"] ["self", "value"] (defScope (mS 22 0)) := ⟨rfl, rfl, rfl, by decide +kernel, rfl, by decide +kernel, by decide +kernel⟩
theorem mk_BadCount (T : TX K mg) : ExR P w K mg base (cls K 21) ["value"] [(["value"], [0])] := by
  obtain ⟨fd, F⟩ := T.c.def_ 28
  obtain ⟨h1, h2, h3⟩ := mk_ok T 21 (by decide)
  refine ⟨⟨_, fd, ["self", "value"], h1, h2, h3, F.bindsN (fun _ _ _ _ _ _ us hl => match us, hl with | [_, _], _ => rfl), rfl, okX1 F scI_BadCount h1 ((ct_ok T).noat 21 (by decide) "value" (by decide)) fun cdv A outer s H E => pss_one (ps_ost (pe_var (i := 0) rfl (Or.inl rfl)) (pe_var (i := 1) rfl (Or.inl rfl))), ?_⟩, by decide, by decide⟩
  exact fun b hb => by
    rcases List.mem_cons.mp hb with rfl | hb
    · exact FunD.kwB (ps := ["self", "value"]) F fun _ _ _ _ _ _ self ws hl => match ws, hl with | [_], _ => rfl
    cases hb
theorem scI_BadLine : FnScope ["self", "word"] ["self", "word"] (defScope (mS 25 0)) := ⟨rfl, rfl, rfl, by decide +kernel, rfl, by decide +kernel, by decide +kernel⟩
theorem mk_BadLine (T : TX K mg) : ExR P w K mg base (cls K 24) ["word"] [(["word"], [0])] := by
  obtain ⟨fd, F⟩ := T.c.def_ 29
  obtain ⟨h1, h2, h3⟩ := mk_ok T 24 (by decide)
  refine ⟨⟨_, fd, ["self", "word"], h1, h2, h3, F.bindsN (fun _ _ _ _ _ _ us hl => match us, hl with | [_, _], _ => rfl), rfl, okX1 F scI_BadLine h1 ((ct_ok T).noat 24 (by decide) "word" (by decide)) fun cdv A outer s H E => pss_one (ps_ost (pe_var (i := 0) rfl (Or.inl rfl)) (pe_var (i := 1) rfl (Or.inl rfl))), ?_⟩, by decide, by decide⟩
  exact fun b hb => by
    rcases List.mem_cons.mp hb with rfl | hb
    · exact FunD.kwB (ps := ["self", "word"]) F fun _ _ _ _ _ _ self ws hl => match ws, hl with | [_], _ => rfl
    cases hb
theorem scI_Untold : FnScope ["self", "paper"] ["self", "paper"] (defScope (mS 27 0)) := ⟨rfl, rfl, rfl, by decide +kernel, rfl, by decide +kernel, by decide +kernel⟩
theorem mk_Untold (T : TX K mg) : ExR P w K mg base (cls K 26) ["paper"] [(["paper"], [0])] := by
  obtain ⟨fd, F⟩ := T.c.def_ 30
  obtain ⟨h1, h2, h3⟩ := mk_ok T 26 (by decide)
  refine ⟨⟨_, fd, ["self", "paper"], h1, h2, h3, F.bindsN (fun _ _ _ _ _ _ us hl => match us, hl with | [_, _], _ => rfl), rfl, okX1 F scI_Untold h1 ((ct_ok T).noat 26 (by decide) "paper" (by decide)) fun cdv A outer s H E => pss_one (ps_ost (pe_var (i := 0) rfl (Or.inl rfl)) (pe_var (i := 1) rfl (Or.inl rfl))), ?_⟩, by decide, by decide⟩
  exact fun b hb => by
    rcases List.mem_cons.mp hb with rfl | hb
    · exact FunD.kwB (ps := ["self", "paper"]) F fun _ _ _ _ _ _ self ws hl => match ws, hl with | [_], _ => rfl
    cases hb
theorem scI_Gone : FnScope ["self", "unit"] ["self", "unit"] (defScope (mS 28 0)) := ⟨rfl, rfl, rfl, by decide +kernel, rfl, by decide +kernel, by decide +kernel⟩
theorem mk_Gone (T : TX K mg) : ExR P w K mg base (cls K 27) ["unit"] [(["unit"], [0])] := by
  obtain ⟨fd, F⟩ := T.c.def_ 31
  obtain ⟨h1, h2, h3⟩ := mk_ok T 27 (by decide)
  refine ⟨⟨_, fd, ["self", "unit"], h1, h2, h3, F.bindsN (fun _ _ _ _ _ _ us hl => match us, hl with | [_, _], _ => rfl), rfl, okX1 F scI_Gone h1 ((ct_ok T).noat 27 (by decide) "unit" (by decide)) fun cdv A outer s H E => pss_one (ps_ost (pe_var (i := 0) rfl (Or.inl rfl)) (pe_var (i := 1) rfl (Or.inl rfl))), ?_⟩, by decide, by decide⟩
  exact fun b hb => by
    rcases List.mem_cons.mp hb with rfl | hb
    · exact FunD.kwB (ps := ["self", "unit"]) F fun _ _ _ _ _ _ self ws hl => match ws, hl with | [_], _ => rfl
    cases hb
theorem scI_Taken : FnScope ["self", "name"] ["self", "name"] (defScope (mS 30 0)) := ⟨rfl, rfl, rfl, by decide +kernel, rfl, by decide +kernel, by decide +kernel⟩
theorem mk_Taken (T : TX K mg) : ExR P w K mg base (cls K 29) ["name"] [(["name"], [0])] := by
  obtain ⟨fd, F⟩ := T.c.def_ 32
  obtain ⟨h1, h2, h3⟩ := mk_ok T 29 (by decide)
  refine ⟨⟨_, fd, ["self", "name"], h1, h2, h3, F.bindsN (fun _ _ _ _ _ _ us hl => match us, hl with | [_, _], _ => rfl), rfl, okX1 F scI_Taken h1 ((ct_ok T).noat 29 (by decide) "name" (by decide)) fun cdv A outer s H E => pss_one (ps_ost (pe_var (i := 0) rfl (Or.inl rfl)) (pe_var (i := 1) rfl (Or.inl rfl))), ?_⟩, by decide, by decide⟩
  exact fun b hb => by
    rcases List.mem_cons.mp hb with rfl | hb
    · exact FunD.kwB (ps := ["self", "name"]) F fun _ _ _ _ _ _ self ws hl => match ws, hl with | [_], _ => rfl
    cases hb
theorem scI_NoUnit : FnScope ["self", "unit"] ["self", "unit"] (defScope (mS 31 0)) := ⟨rfl, rfl, rfl, by decide +kernel, rfl, by decide +kernel, by decide +kernel⟩
theorem mk_NoUnit (T : TX K mg) : ExR P w K mg base (cls K 30) ["unit"] [(["unit"], [0])] := by
  obtain ⟨fd, F⟩ := T.c.def_ 33
  obtain ⟨h1, h2, h3⟩ := mk_ok T 30 (by decide)
  refine ⟨⟨_, fd, ["self", "unit"], h1, h2, h3, F.bindsN (fun _ _ _ _ _ _ us hl => match us, hl with | [_, _], _ => rfl), rfl, okX1 F scI_NoUnit h1 ((ct_ok T).noat 30 (by decide) "unit" (by decide)) fun cdv A outer s H E => pss_one (ps_ost (pe_var (i := 0) rfl (Or.inl rfl)) (pe_var (i := 1) rfl (Or.inl rfl))), ?_⟩, by decide, by decide⟩
  exact fun b hb => by
    rcases List.mem_cons.mp hb with rfl | hb
    · exact FunD.kwB (ps := ["self", "unit"]) F fun _ _ _ _ _ _ self ws hl => match ws, hl with | [_], _ => rfl
    cases hb
theorem scI_NoName : FnScope ["self", "name"] ["self", "name"] (defScope (mS 32 0)) := ⟨rfl, rfl, rfl, by decide +kernel, rfl, by decide +kernel, by decide +kernel⟩
theorem mk_NoName (T : TX K mg) : ExR P w K mg base (cls K 31) ["name"] [(["name"], [0])] := by
  obtain ⟨fd, F⟩ := T.c.def_ 34
  obtain ⟨h1, h2, h3⟩ := mk_ok T 31 (by decide)
  refine ⟨⟨_, fd, ["self", "name"], h1, h2, h3, F.bindsN (fun _ _ _ _ _ _ us hl => match us, hl with | [_, _], _ => rfl), rfl, okX1 F scI_NoName h1 ((ct_ok T).noat 31 (by decide) "name" (by decide)) fun cdv A outer s H E => pss_one (ps_ost (pe_var (i := 0) rfl (Or.inl rfl)) (pe_var (i := 1) rfl (Or.inl rfl))), ?_⟩, by decide, by decide⟩
  exact fun b hb => by
    rcases List.mem_cons.mp hb with rfl | hb
    · exact FunD.kwB (ps := ["self", "name"]) F fun _ _ _ _ _ _ self ws hl => match ws, hl with | [_], _ => rfl
    cases hb
theorem scI_BadText : FnScope ["self", "line", "word"] ["self", "line", "word"] (defScope (mS 24 0)) := ⟨rfl, rfl, rfl, by decide +kernel, rfl, by decide +kernel, by decide +kernel⟩
theorem mk_BadText (T : TX K mg) : ExR P w K mg base (cls K 23) ["line", "word"] [(["word", "line"], [1, 0])] := by
  obtain ⟨fd, F⟩ := T.c.def_ 35
  obtain ⟨h1, h2, h3⟩ := mk_ok T 23 (by decide)
  refine ⟨⟨_, fd, ["self", "line", "word"], h1, h2, h3, F.bindsN (fun _ _ _ _ _ _ us hl => match us, hl with | [_, _, _], _ => rfl), rfl, okX2 F scI_BadText h1 ((ct_ok T).noat 23 (by decide) "line" (by decide)) ((ct_ok T).noat 23 (by decide) "word" (by decide)) fun cdv A outer s H E => pss_cons (ps_ost (pe_var (i := 0) rfl (Or.inl rfl)) (pe_var (i := 1) rfl (Or.inl rfl))) (pss_one (ps_ost (pe_var (i := 0) rfl (Or.inl rfl)) (pe_var (i := 2) rfl (Or.inl rfl)))), ?_⟩, by decide, by decide⟩
  exact fun b hb => by
    rcases List.mem_cons.mp hb with rfl | hb
    · exact FunD.kwB (ps := ["self", "line", "word"]) F fun _ _ _ _ _ _ self ws hl => match ws, hl with | [_, _], _ => rfl
    cases hb
theorem scI_TooMany : FnScope ["self", "what", "most"] ["self", "what", "most"] (defScope (mS 26 0)) := ⟨rfl, rfl, rfl, by decide +kernel, rfl, by decide +kernel, by decide +kernel⟩
theorem mk_TooMany (T : TX K mg) : ExR P w K mg base (cls K 25) ["what", "most"] [(["most", "what"], [1, 0])] := by
  obtain ⟨fd, F⟩ := T.c.def_ 36
  obtain ⟨h1, h2, h3⟩ := mk_ok T 25 (by decide)
  refine ⟨⟨_, fd, ["self", "what", "most"], h1, h2, h3, F.bindsN (fun _ _ _ _ _ _ us hl => match us, hl with | [_, _, _], _ => rfl), rfl, okX2 F scI_TooMany h1 ((ct_ok T).noat 25 (by decide) "what" (by decide)) ((ct_ok T).noat 25 (by decide) "most" (by decide)) fun cdv A outer s H E => pss_cons (ps_ost (pe_var (i := 0) rfl (Or.inl rfl)) (pe_var (i := 1) rfl (Or.inl rfl))) (pss_one (ps_ost (pe_var (i := 0) rfl (Or.inl rfl)) (pe_var (i := 2) rfl (Or.inl rfl)))), ?_⟩, by decide, by decide⟩
  exact fun b hb => by
    rcases List.mem_cons.mp hb with rfl | hb
    · exact FunD.kwB (ps := ["self", "what", "most"]) F fun _ _ _ _ _ _ self ws hl => match ws, hl with | [_, _], _ => rfl
    cases hb
theorem mk0_VaultError (T : TX K mg) : Ex0 K (cls K 0) := zero_ok T 0 (by decide)
theorem mk0_BadInput (T : TX K mg) : Ex0 K (cls K 1) := zero_ok T 1 (by decide)
theorem mk0_Refused (T : TX K mg) : Ex0 K (cls K 2) := zero_ok T 2 (by decide)
theorem mk0_NoAnswer (T : TX K mg) : Ex0 K (cls K 3) := zero_ok T 3 (by decide)
theorem mk0_Torn (T : TX K mg) : Ex0 K (cls K 28) := zero_ok T 28 (by decide)
theorem mk0_NoDeed (T : TX K mg) : Ex0 K (cls K 32) := zero_ok T 32 (by decide)
abbrev st__law_pen : Stmt := topS 35
abbrev N__law_pen : List Str := ["_law_script"]
theorem sc__law_pen : FnScope N__law_pen ["_law_script"] (defScope st__law_pen) := ⟨rfl, rfl, rfl, by decide +kernel, rfl, by decide +kernel, by decide +kernel⟩
def e__law_pen : Sv := sRet (eApp hLstN (eCons (eApp hList (eCons (eSl (eVar 0) (oNone) (oSome (eC (.int 63)))) (eNil))) (eCons (eC (.int 0)) (eCons (eC (.int 0)) (eNil)))))
def g__law_pen : List A → Store → Out A := defF 1 e__law_pen
theorem ok__law_pen (T : TX K mg) : FnR P w K mg base (cls K) 1 (He.ga K "_law_pen") ["_law_script"] g__law_pen :=
  fnR_mk (N := N__law_pen) (k := 0) (fb := e__law_pen) (T.c.def_ 0) sc__law_pen (fun _ _ _ _ _ _ us hl => match us, hl with | [_], _ => rfl) fun cdv A outer s H E hr B =>
    (sss_one (ss_ret (se_lstN (sa_cons (se_callT b_list (T.free 0) (sa_cons (se_sl (se_var 0) so_none (so_some se_int)) sa_nil)) (sa_cons se_int (sa_cons se_int sa_nil))))))
abbrev st__law_signs : Stmt := topS 39
abbrev N__law_signs : List Str := ["_law_error", "_law_found"]
theorem sc__law_signs : FnScope N__law_signs ["_law_error"] (defScope st__law_signs) := ⟨rfl, rfl, rfl, by decide +kernel, rfl, by decide +kernel, by decide +kernel⟩
def e__law_signs : Sv := sSeq (sSet 1 (eApp hLst (eCons (eApp hTup (eCons (eC (.str "input")) (eCons (eApp (hIsI ct) (eCons (eVar 0) (eCons (eC (.cls 1)) (eNil)))) (eNil)))) (eCons (eApp hTup (eCons (eC (.str "refused")) (eCons (eApp (hIsI ct) (eCons (eVar 0) (eCons (eC (.cls 2)) (eNil)))) (eNil)))) (eNil)))))
    (sSeq (sSet 1 (eOp hAdd (eVar 1) (eApp hLst (eCons (eApp hTup (eCons (eC (.str "answer")) (eCons (eApp (hIsI ct) (eCons (eVar 0) (eCons (eC (.cls 3)) (eNil)))) (eNil)))) (eCons (eApp hTup (eCons (eC (.str "amount")) (eCons (eApp (hIsI ct) (eCons (eVar 0) (eCons (eC (.cls 19)) (eNil)))) (eNil)))) (eNil))))))
    (sSeq (sSet 1 (eOp hAdd (eVar 1) (eApp hLst (eCons (eApp hTup (eCons (eC (.str "book")) (eCons (eApp (hIsI ct) (eCons (eVar 0) (eCons (eC (.cls 15)) (eNil)))) (eNil)))) (eCons (eApp hTup (eCons (eC (.str "count")) (eCons (eApp (hIsI ct) (eCons (eVar 0) (eCons (eC (.cls 21)) (eNil)))) (eNil)))) (eNil))))))
    (sSeq (sSet 1 (eOp hAdd (eVar 1) (eApp hLst (eCons (eApp hTup (eCons (eC (.str "kind")) (eCons (eApp (hIsI ct) (eCons (eVar 0) (eCons (eC (.cls 9)) (eNil)))) (eNil)))) (eCons (eApp hTup (eCons (eC (.str "layout")) (eCons (eApp (hIsI ct) (eCons (eVar 0) (eCons (eC (.cls 10)) (eNil)))) (eNil)))) (eNil))))))
    (sSeq (sSet 1 (eOp hAdd (eVar 1) (eApp hLst (eCons (eApp hTup (eCons (eC (.str "line")) (eCons (eApp (hIsI ct) (eCons (eVar 0) (eCons (eC (.cls 24)) (eNil)))) (eNil)))) (eCons (eApp hTup (eCons (eC (.str "name")) (eCons (eApp (hIsI ct) (eCons (eVar 0) (eCons (eC (.cls 22)) (eNil)))) (eNil)))) (eNil))))))
    (sSeq (sSet 1 (eOp hAdd (eVar 1) (eApp hLst (eCons (eApp hTup (eCons (eC (.str "order")) (eCons (eApp (hIsI ct) (eCons (eVar 0) (eCons (eC (.cls 13)) (eNil)))) (eNil)))) (eCons (eApp hTup (eCons (eC (.str "part")) (eCons (eApp (hIsI ct) (eCons (eVar 0) (eCons (eC (.cls 6)) (eNil)))) (eNil)))) (eNil))))))
    (sSeq (sSet 1 (eOp hAdd (eVar 1) (eApp hLst (eCons (eApp hTup (eCons (eC (.str "place")) (eCons (eApp (hIsI ct) (eCons (eVar 0) (eCons (eC (.cls 18)) (eNil)))) (eNil)))) (eCons (eApp hTup (eCons (eC (.str "plan")) (eCons (eApp (hIsI ct) (eCons (eVar 0) (eCons (eC (.cls 12)) (eNil)))) (eNil)))) (eNil))))))
    (sSeq (sSet 1 (eOp hAdd (eVar 1) (eApp hLst (eCons (eApp hTup (eCons (eC (.str "question")) (eCons (eApp (hIsI ct) (eCons (eVar 0) (eCons (eC (.cls 7)) (eNil)))) (eNil)))) (eCons (eApp hTup (eCons (eC (.str "rule")) (eCons (eApp (hIsI ct) (eCons (eVar 0) (eCons (eC (.cls 11)) (eNil)))) (eNil)))) (eNil))))))
    (sSeq (sSet 1 (eOp hAdd (eVar 1) (eApp hLst (eCons (eApp hTup (eCons (eC (.str "shape")) (eCons (eApp (hIsI ct) (eCons (eVar 0) (eCons (eC (.cls 4)) (eNil)))) (eNil)))) (eCons (eApp hTup (eCons (eC (.str "span")) (eCons (eApp (hIsI ct) (eCons (eVar 0) (eCons (eC (.cls 8)) (eNil)))) (eNil)))) (eNil))))))
    (sSeq (sSet 1 (eOp hAdd (eVar 1) (eApp hLst (eCons (eApp hTup (eCons (eC (.str "table")) (eCons (eApp (hIsI ct) (eCons (eVar 0) (eCons (eC (.cls 5)) (eNil)))) (eNil)))) (eCons (eApp hTup (eCons (eC (.str "text")) (eCons (eApp (hIsI ct) (eCons (eVar 0) (eCons (eC (.cls 23)) (eNil)))) (eNil)))) (eNil))))))
    (sSeq (sSet 1 (eOp hAdd (eVar 1) (eApp hLst (eCons (eApp hTup (eCons (eC (.str "unit")) (eCons (eApp (hIsI ct) (eCons (eVar 0) (eCons (eC (.cls 20)) (eNil)))) (eNil)))) (eCons (eApp hTup (eCons (eC (.str "vault")) (eCons (eApp (hIsI ct) (eCons (eVar 0) (eCons (eC (.cls 14)) (eNil)))) (eNil)))) (eNil))))))
    (sSeq (sSet 1 (eOp hAdd (eVar 1) (eApp hLst (eCons (eApp hTup (eCons (eC (.str "gone")) (eCons (eApp (hIsI ct) (eCons (eVar 0) (eCons (eC (.cls 27)) (eNil)))) (eNil)))) (eCons (eApp hTup (eCons (eC (.str "taken")) (eCons (eApp (hIsI ct) (eCons (eVar 0) (eCons (eC (.cls 29)) (eNil)))) (eNil)))) (eNil))))))
    (sSeq (sSet 1 (eOp hAdd (eVar 1) (eApp hLst (eCons (eApp hTup (eCons (eC (.str "too many")) (eCons (eApp (hIsI ct) (eCons (eVar 0) (eCons (eC (.cls 25)) (eNil)))) (eNil)))) (eCons (eApp hTup (eCons (eC (.str "torn")) (eCons (eApp (hIsI ct) (eCons (eVar 0) (eCons (eC (.cls 28)) (eNil)))) (eNil)))) (eNil))))))
    (sSeq (sSet 1 (eOp hAdd (eVar 1) (eApp hLst (eCons (eApp hTup (eCons (eC (.str "untold")) (eCons (eApp (hIsI ct) (eCons (eVar 0) (eCons (eC (.cls 26)) (eNil)))) (eNil)))) (eCons (eApp hTup (eCons (eC (.str "no deed")) (eCons (eApp (hIsI ct) (eCons (eVar 0) (eCons (eC (.cls 32)) (eNil)))) (eNil)))) (eNil))))))
    (sSeq (sSet 1 (eOp hAdd (eVar 1) (eApp hLst (eCons (eApp hTup (eCons (eC (.str "poly")) (eCons (eApp (hIsI ct) (eCons (eVar 0) (eCons (eC (.cls 16)) (eNil)))) (eNil)))) (eCons (eApp hTup (eCons (eC (.str "sites")) (eCons (eApp (hIsI ct) (eCons (eVar 0) (eCons (eC (.cls 17)) (eNil)))) (eNil)))) (eNil))))))
    (sRet (eOp hAdd (eVar 1) (eApp hLst (eCons (eApp hTup (eCons (eC (.str "no name")) (eCons (eApp (hIsI ct) (eCons (eVar 0) (eCons (eC (.cls 31)) (eNil)))) (eNil)))) (eCons (eApp hTup (eCons (eC (.str "no unit")) (eCons (eApp (hIsI ct) (eCons (eVar 0) (eCons (eC (.cls 30)) (eNil)))) (eNil)))) (eNil))))))))))))))))))))
def g__law_signs : List A → Store → Out A := defF 2 e__law_signs
theorem ok__law_signs (T : TX K mg) : FnR P w K mg base (cls K) 1 (He.ga K "_law_signs") ["_law_error"] g__law_signs :=
  fnR_mk (N := N__law_signs) (k := 0) (fb := e__law_signs) (T.c.def_ 1) sc__law_signs (fun _ _ _ _ _ _ us hl => match us, hl with | [_], _ => rfl) fun cdv A outer s H E hr B =>
    (sss_cons (ss_set 1 sc__law_signs.nd (se_lst (sa_cons (se_tup (sa_cons se_str (sa_cons (se_callB (b_isI (ct_ok T)) (T.free 2) (sa_cons (se_var 0) (sa_cons (se_cls (c := 1) (T.glo 3)) sa_nil))) sa_nil))) (sa_cons (se_tup (sa_cons se_str (sa_cons (se_callB (b_isI (ct_ok T)) (T.free 2) (sa_cons (se_var 0) (sa_cons (se_cls (c := 2) (T.glo 1)) sa_nil))) sa_nil))) sa_nil))))
      (sss_cons (ss_set 1 sc__law_signs.nd (se_op o_add (se_var 1) (se_lst (sa_cons (se_tup (sa_cons se_str (sa_cons (se_callB (b_isI (ct_ok T)) (T.free 2) (sa_cons (se_var 0) (sa_cons (se_cls (c := 3) (T.glo 5)) sa_nil))) sa_nil))) (sa_cons (se_tup (sa_cons se_str (sa_cons (se_callB (b_isI (ct_ok T)) (T.free 2) (sa_cons (se_var 0) (sa_cons (se_cls (c := 19) (T.glo 4)) sa_nil))) sa_nil))) sa_nil)))))
      (sss_cons (ss_set 1 sc__law_signs.nd (se_op o_add (se_var 1) (se_lst (sa_cons (se_tup (sa_cons se_str (sa_cons (se_callB (b_isI (ct_ok T)) (T.free 2) (sa_cons (se_var 0) (sa_cons (se_cls (c := 15) (T.glo 7)) sa_nil))) sa_nil))) (sa_cons (se_tup (sa_cons se_str (sa_cons (se_callB (b_isI (ct_ok T)) (T.free 2) (sa_cons (se_var 0) (sa_cons (se_cls (c := 21) (T.glo 6)) sa_nil))) sa_nil))) sa_nil)))))
      (sss_cons (ss_set 1 sc__law_signs.nd (se_op o_add (se_var 1) (se_lst (sa_cons (se_tup (sa_cons se_str (sa_cons (se_callB (b_isI (ct_ok T)) (T.free 2) (sa_cons (se_var 0) (sa_cons (se_cls (c := 9) (T.glo 9)) sa_nil))) sa_nil))) (sa_cons (se_tup (sa_cons se_str (sa_cons (se_callB (b_isI (ct_ok T)) (T.free 2) (sa_cons (se_var 0) (sa_cons (se_cls (c := 10) (T.glo 8)) sa_nil))) sa_nil))) sa_nil)))))
      (sss_cons (ss_set 1 sc__law_signs.nd (se_op o_add (se_var 1) (se_lst (sa_cons (se_tup (sa_cons se_str (sa_cons (se_callB (b_isI (ct_ok T)) (T.free 2) (sa_cons (se_var 0) (sa_cons (se_cls (c := 24) (T.glo 11)) sa_nil))) sa_nil))) (sa_cons (se_tup (sa_cons se_str (sa_cons (se_callB (b_isI (ct_ok T)) (T.free 2) (sa_cons (se_var 0) (sa_cons (se_cls (c := 22) (T.glo 10)) sa_nil))) sa_nil))) sa_nil)))))
      (sss_cons (ss_set 1 sc__law_signs.nd (se_op o_add (se_var 1) (se_lst (sa_cons (se_tup (sa_cons se_str (sa_cons (se_callB (b_isI (ct_ok T)) (T.free 2) (sa_cons (se_var 0) (sa_cons (se_cls (c := 13) (T.glo 13)) sa_nil))) sa_nil))) (sa_cons (se_tup (sa_cons se_str (sa_cons (se_callB (b_isI (ct_ok T)) (T.free 2) (sa_cons (se_var 0) (sa_cons (se_cls (c := 6) (T.glo 12)) sa_nil))) sa_nil))) sa_nil)))))
      (sss_cons (ss_set 1 sc__law_signs.nd (se_op o_add (se_var 1) (se_lst (sa_cons (se_tup (sa_cons se_str (sa_cons (se_callB (b_isI (ct_ok T)) (T.free 2) (sa_cons (se_var 0) (sa_cons (se_cls (c := 18) (T.glo 15)) sa_nil))) sa_nil))) (sa_cons (se_tup (sa_cons se_str (sa_cons (se_callB (b_isI (ct_ok T)) (T.free 2) (sa_cons (se_var 0) (sa_cons (se_cls (c := 12) (T.glo 14)) sa_nil))) sa_nil))) sa_nil)))))
      (sss_cons (ss_set 1 sc__law_signs.nd (se_op o_add (se_var 1) (se_lst (sa_cons (se_tup (sa_cons se_str (sa_cons (se_callB (b_isI (ct_ok T)) (T.free 2) (sa_cons (se_var 0) (sa_cons (se_cls (c := 7) (T.glo 17)) sa_nil))) sa_nil))) (sa_cons (se_tup (sa_cons se_str (sa_cons (se_callB (b_isI (ct_ok T)) (T.free 2) (sa_cons (se_var 0) (sa_cons (se_cls (c := 11) (T.glo 16)) sa_nil))) sa_nil))) sa_nil)))))
      (sss_cons (ss_set 1 sc__law_signs.nd (se_op o_add (se_var 1) (se_lst (sa_cons (se_tup (sa_cons se_str (sa_cons (se_callB (b_isI (ct_ok T)) (T.free 2) (sa_cons (se_var 0) (sa_cons (se_cls (c := 4) (T.glo 19)) sa_nil))) sa_nil))) (sa_cons (se_tup (sa_cons se_str (sa_cons (se_callB (b_isI (ct_ok T)) (T.free 2) (sa_cons (se_var 0) (sa_cons (se_cls (c := 8) (T.glo 18)) sa_nil))) sa_nil))) sa_nil)))))
      (sss_cons (ss_set 1 sc__law_signs.nd (se_op o_add (se_var 1) (se_lst (sa_cons (se_tup (sa_cons se_str (sa_cons (se_callB (b_isI (ct_ok T)) (T.free 2) (sa_cons (se_var 0) (sa_cons (se_cls (c := 5) (T.glo 21)) sa_nil))) sa_nil))) (sa_cons (se_tup (sa_cons se_str (sa_cons (se_callB (b_isI (ct_ok T)) (T.free 2) (sa_cons (se_var 0) (sa_cons (se_cls (c := 23) (T.glo 20)) sa_nil))) sa_nil))) sa_nil)))))
      (sss_cons (ss_set 1 sc__law_signs.nd (se_op o_add (se_var 1) (se_lst (sa_cons (se_tup (sa_cons se_str (sa_cons (se_callB (b_isI (ct_ok T)) (T.free 2) (sa_cons (se_var 0) (sa_cons (se_cls (c := 20) (T.glo 23)) sa_nil))) sa_nil))) (sa_cons (se_tup (sa_cons se_str (sa_cons (se_callB (b_isI (ct_ok T)) (T.free 2) (sa_cons (se_var 0) (sa_cons (se_cls (c := 14) (T.glo 22)) sa_nil))) sa_nil))) sa_nil)))))
      (sss_cons (ss_set 1 sc__law_signs.nd (se_op o_add (se_var 1) (se_lst (sa_cons (se_tup (sa_cons se_str (sa_cons (se_callB (b_isI (ct_ok T)) (T.free 2) (sa_cons (se_var 0) (sa_cons (se_cls (c := 27) (T.glo 25)) sa_nil))) sa_nil))) (sa_cons (se_tup (sa_cons se_str (sa_cons (se_callB (b_isI (ct_ok T)) (T.free 2) (sa_cons (se_var 0) (sa_cons (se_cls (c := 29) (T.glo 24)) sa_nil))) sa_nil))) sa_nil)))))
      (sss_cons (ss_set 1 sc__law_signs.nd (se_op o_add (se_var 1) (se_lst (sa_cons (se_tup (sa_cons se_str (sa_cons (se_callB (b_isI (ct_ok T)) (T.free 2) (sa_cons (se_var 0) (sa_cons (se_cls (c := 25) (T.glo 27)) sa_nil))) sa_nil))) (sa_cons (se_tup (sa_cons se_str (sa_cons (se_callB (b_isI (ct_ok T)) (T.free 2) (sa_cons (se_var 0) (sa_cons (se_cls (c := 28) (T.glo 26)) sa_nil))) sa_nil))) sa_nil)))))
      (sss_cons (ss_set 1 sc__law_signs.nd (se_op o_add (se_var 1) (se_lst (sa_cons (se_tup (sa_cons se_str (sa_cons (se_callB (b_isI (ct_ok T)) (T.free 2) (sa_cons (se_var 0) (sa_cons (se_cls (c := 26) (T.glo 29)) sa_nil))) sa_nil))) (sa_cons (se_tup (sa_cons se_str (sa_cons (se_callB (b_isI (ct_ok T)) (T.free 2) (sa_cons (se_var 0) (sa_cons (se_cls (c := 32) (T.glo 28)) sa_nil))) sa_nil))) sa_nil)))))
      (sss_cons (ss_set 1 sc__law_signs.nd (se_op o_add (se_var 1) (se_lst (sa_cons (se_tup (sa_cons se_str (sa_cons (se_callB (b_isI (ct_ok T)) (T.free 2) (sa_cons (se_var 0) (sa_cons (se_cls (c := 16) (T.glo 31)) sa_nil))) sa_nil))) (sa_cons (se_tup (sa_cons se_str (sa_cons (se_callB (b_isI (ct_ok T)) (T.free 2) (sa_cons (se_var 0) (sa_cons (se_cls (c := 17) (T.glo 30)) sa_nil))) sa_nil))) sa_nil)))))
      (sss_one (ss_ret (se_op o_add (se_var 1) (se_lst (sa_cons (se_tup (sa_cons se_str (sa_cons (se_callB (b_isI (ct_ok T)) (T.free 2) (sa_cons (se_var 0) (sa_cons (se_cls (c := 31) (T.glo 33)) sa_nil))) sa_nil))) (sa_cons (se_tup (sa_cons se_str (sa_cons (se_callB (b_isI (ct_ok T)) (T.free 2) (sa_cons (se_var 0) (sa_cons (se_cls (c := 30) (T.glo 32)) sa_nil))) sa_nil))) sa_nil)))))))))))))))))))))
abbrev st__law_kinds : Stmt := topS 40
abbrev N__law_kinds : List Str := ["_law_error", "_law_sign", "_law_is_so"]
theorem sc__law_kinds : FnScope N__law_kinds ["_law_error"] (defScope st__law_kinds) := ⟨rfl, rfl, rfl, by decide +kernel, rfl, by decide +kernel, by decide +kernel⟩
def e__law_kinds : Sv := sRet (eIfE (tBool (eApp (hIsI ct) (eCons (eVar 0) (eCons (eC (.cls 0)) (eNil))))) (eLc [1, 2] (iSeq (eApp (callG 1 g__law_signs []) (eCons (eVar 0) (eNil)))) (gTupE 2 (gMore (gSet 1) (gMore (gSet 2) (gNone)))) (tBool (eVar 2)) (eVar 1)) (eC .non))
def g__law_kinds : List A → Store → Out A := defF 3 e__law_kinds
theorem ok__law_kinds (T : TX K mg) : FnR P w K mg base (cls K) 2 (He.ga K "_law_kinds") ["_law_error"] g__law_kinds :=
  fnR_mk (N := N__law_kinds) (k := 1) (fb := e__law_kinds) (T.c.def_ 2) sc__law_kinds (fun _ _ _ _ _ _ us hl => match us, hl with | [_], _ => rfl) fun cdv A outer s H E hr B =>
    (sss_one (ss_ret (se_if (st_val (se_callB (b_isI (ct_ok T)) (T.free 2) (sa_cons (se_var 0) (sa_cons (se_cls (c := 0) (T.glo 34)) sa_nil)))) (se_lc (own := [("_law_sign", 1), ("_law_is_so", 2)]) (g := gTupE 2 (gMore (gSet 1) (gMore (gSet 2) (gNone)))) (tt := tBool (eVar 2)) (te := eVar 1) rfl sc__law_kinds.nd (si_seq (se_fn (ok__law_signs T) B (hr.mono (by decide)) (T.glo 35) (sa_cons (se_var 0) sa_nil))) (blkOk_by (own := [("_law_sign", 1), ("_law_is_so", 2)]) (N := N__law_kinds) (sc := defScope st__law_kinds) (by decide +kernel)) (fun _ _ _ _ _ => (gx_tup (gsx_cons (gx_name 1 (by decide) sc__law_kinds.nd) (gsx_cons (gx_name 2 (by decide) sc__law_kinds.nd) gsx_nil)) rfl)) (fun _ _ _ _ _ => (pts_st (st_val (se_var 2)))) (fun _ _ _ _ _ => (se_var 1))) se_non)))
abbrev st__law_draw : Stmt := topS 36
abbrev N__law_draw : List Str := ["_law_pen_here", "_law_many", "_law_digit", "_law_at", "_law_cell", "_law_great", "_law_mixed"]
theorem sc__law_draw : FnScope N__law_draw ["_law_pen_here", "_law_many"] (defScope st__law_draw) := ⟨rfl, rfl, rfl, by decide +kernel, rfl, by decide +kernel, by decide +kernel⟩
def e__law_draw : Sv := sSeq (sIf (tBool (eOp hGt (eOp hIx (eVar 0) (eC (.int 2))) (eC (.int 0)))) (sSeq (sSet 2 (eOp hMod (eApp hIntC (eCons (eOp hIx (eVar 0) (eC (.int 2))) (eNil))) (eVar 1)))
    (sSeq (sAsg (eOp hDiv (eApp hIntC (eCons (eOp hIx (eVar 0) (eC (.int 2))) (eNil))) (eVar 1)) (gItem (eVar 0) (eC (.int 2))))
    (sRet (eVar 2))))
    (sNext))
    (sSeq (sSet 3 (eOp hIx (eVar 0) (eC (.int 1))))
    (sSeq (sAsg (eOp hAdd (eVar 3) (eC (.int 1))) (gItem (eVar 0) (eC (.int 1))))
    (sSeq (sSet 4 (eOp hAdd (eOp hMulA (eC (.int 39199)) (eVar 3)) (eC (.int 4157))))
    (sSeq (sIf (tBool (eOp hNe (eOp hIx (eVar 0) (eC (.int 0))) (eApp hLst (eNil)))) (sSet 4 (eOp hIx (eOp hIx (eVar 0) (eC (.int 0))) (eOp hMod (eApp hIntC (eCons (eVar 3) (eNil))) (eApp hLen (eCons (eOp hIx (eVar 0) (eC (.int 0))) (eNil))))))
    (sNext))
    (sSeq (sIf (tAndE (tBool (eOp hLt (eVar 3) (eApp hLen (eCons (eOp hIx (eVar 0) (eC (.int 0))) (eNil))))) (tBool (eOp hGe (eApp hAbs (eCons (eVar 4) (eNil))) (eOp hPow (eC (.int 10)) (eC (.int 18)))))) (sSeq (sSet 5 (eOp hAdd (eOp hMulA (eC (.int 2)) (eOp hSub (eApp hAbs (eCons (eVar 4) (eNil))) (eOp hPow (eC (.int 10)) (eC (.int 18))))) (eApp hIntC (eCons (eOp hLt (eVar 4) (eC (.int 0))) (eNil)))))
    (sSeq (sAsg (eOp hDiv (eApp hIntC (eCons (eVar 5) (eNil))) (eVar 1)) (gItem (eVar 0) (eC (.int 2))))
    (sRet (eOp hMod (eApp hIntC (eCons (eVar 5) (eNil))) (eVar 1)))))
    (sNext))
    (sSeq (sSet 6 (eOp hMod (eApp hIntC (eCons (eOp hPow (eOp hAdd (eOp hAdd (eOp hMod (eApp hIntC (eCons (eVar 4) (eNil))) (eC (.int 2147483549))) (eOp hMulA (eC (.int 48907)) (eVar 3))) (eC (.int 1129))) (eC (.int 5))) (eNil))) (eC (.int 2147483629))))
    (sSeq (sSet 6 (eOp hMod (eApp hIntC (eCons (eOp hPow (eOp hAdd (eOp hAdd (eOp hMulA (eVar 6) (eOp hAdd (eOp hMulA (eC (.int 2)) (eVar 3)) (eC (.int 677)))) (eOp hMulA (eOp hMulA (eC (.int 55733)) (eVar 3)) (eVar 3))) (eC (.int 97))) (eC (.int 3))) (eNil))) (eC (.int 2147483587))))
    (sRet (eOp hMod (eApp hIntC (eCons (eOp hDiv (eVar 6) (eC (.int 32))) (eNil))) (eVar 1))))))))))
def g__law_draw : List A → Store → Out A := defF 7 e__law_draw
theorem ok__law_draw (T : TX K mg) : FnR P w K mg base (cls K) 1 (He.ga K "_law_draw") ["_law_pen_here", "_law_many"] g__law_draw :=
  fnR_mk (N := N__law_draw) (k := 0) (fb := e__law_draw) (T.c.def_ 3) sc__law_draw (fun _ _ _ _ _ _ us hl => match us, hl with | [_, _], _ => rfl) fun cdv A outer s H E hr B =>
    (sss_cons (ss_if (st_cmp o_gt (se_ix (se_var 0) se_int) se_int) (sss_cons (ss_set 2 sc__law_draw.nd (se_op o_mod (se_callT b_int (T.free 36) (sa_cons (se_ix (se_var 0) se_int) sa_nil)) (se_var 1)))
      (sss_cons (ss_asg (se_op o_div (se_callT b_int (T.free 36) (sa_cons (se_ix (se_var 0) se_int) sa_nil)) (se_var 1)) (sg_item (se_var 0) se_int))
      (sss_one (ss_ret (se_var 2)))))
      sss_nil)
      (sss_cons (ss_set 3 sc__law_draw.nd (se_ix (se_var 0) se_int))
      (sss_cons (ss_asg (se_op o_add (se_var 3) se_int) (sg_item (se_var 0) se_int))
      (sss_cons (ss_set 4 sc__law_draw.nd (se_op o_add (se_op o_mulA se_int (se_var 3)) se_int))
      (sss_cons (ss_if (st_cmp (o_ne hr.units) (se_ix (se_var 0) se_int) (se_lst sa_nil)) (sss_one (ss_set 4 sc__law_draw.nd (se_ix (se_ix (se_var 0) se_int) (se_op o_mod (se_callT b_int (T.free 36) (sa_cons (se_var 3) sa_nil)) (se_callB b_len (T.free 37) (sa_cons (se_ix (se_var 0) se_int) sa_nil))))))
      sss_nil)
      (sss_cons (ss_if (SW.pt (sw_and (st_cmp o_lt (se_var 3) (se_callB b_len (T.free 37) (sa_cons (se_ix (se_var 0) se_int) sa_nil))) (sw_and1 (st_cmp o_ge (se_callB b_abs (T.free 38) (sa_cons (se_var 4) sa_nil)) (se_op o_pow se_int se_int))))) (sss_cons (ss_set 5 sc__law_draw.nd (se_op o_add (se_op o_mulA se_int (se_op o_sub (se_callB b_abs (T.free 38) (sa_cons (se_var 4) sa_nil)) (se_op o_pow se_int se_int))) (se_callT b_int (T.free 36) (sa_cons (se_cmp o_lt (se_var 4) se_int) sa_nil))))
      (sss_cons (ss_asg (se_op o_div (se_callT b_int (T.free 36) (sa_cons (se_var 5) sa_nil)) (se_var 1)) (sg_item (se_var 0) se_int))
      (sss_one (ss_ret (se_op o_mod (se_callT b_int (T.free 36) (sa_cons (se_var 5) sa_nil)) (se_var 1))))))
      sss_nil)
      (sss_cons (ss_set 6 sc__law_draw.nd (se_op o_mod (se_callT b_int (T.free 36) (sa_cons (se_op o_pow (se_op o_add (se_op o_add (se_op o_mod (se_callT b_int (T.free 36) (sa_cons (se_var 4) sa_nil)) se_int) (se_op o_mulA se_int (se_var 3))) se_int) se_int) sa_nil)) se_int))
      (sss_cons (ss_set 6 sc__law_draw.nd (se_op o_mod (se_callT b_int (T.free 36) (sa_cons (se_op o_pow (se_op o_add (se_op o_add (se_op o_mulA (se_var 6) (se_op o_add (se_op o_mulA se_int (se_var 3)) se_int)) (se_op o_mulA (se_op o_mulA se_int (se_var 3)) (se_var 3))) se_int) se_int) sa_nil)) se_int))
      (sss_one (ss_ret (se_op o_mod (se_callT b_int (T.free 36) (sa_cons (se_op o_div (se_var 6) se_int) sa_nil)) (se_var 1))))))))))))
abbrev st__law_pick : Stmt := topS 37
abbrev N__law_pick : List Str := ["_law_pen_here", "_law_some"]
theorem sc__law_pick : FnScope N__law_pick ["_law_pen_here", "_law_some"] (defScope st__law_pick) := ⟨rfl, rfl, rfl, by decide +kernel, rfl, by decide +kernel, by decide +kernel⟩
def e__law_pick : Sv := sRet (eOp hIx (eVar 1) (eApp (callG 2 g__law_draw []) (eCons (eVar 0) (eCons (eApp hLen (eCons (eVar 1) (eNil))) (eNil)))))
def g__law_pick : List A → Store → Out A := defF 2 e__law_pick
theorem ok__law_pick (T : TX K mg) : FnR P w K mg base (cls K) 2 (He.ga K "_law_pick") ["_law_pen_here", "_law_some"] g__law_pick :=
  fnR_mk (N := N__law_pick) (k := 1) (fb := e__law_pick) (T.c.def_ 4) sc__law_pick (fun _ _ _ _ _ _ us hl => match us, hl with | [_, _], _ => rfl) fun cdv A outer s H E hr B =>
    (sss_one (ss_ret (se_ix (se_var 1) (se_fn (ok__law_draw T) B (hr.mono (by decide)) (T.glo 39) (sa_cons (se_var 0) (sa_cons (se_callB b_len (T.free 37) (sa_cons (se_var 1) sa_nil)) sa_nil))))))
abbrev st__law_value : Stmt := topS 38
abbrev N__law_value : List Str := ["_law_pen_here", "_law_some"]
theorem sc__law_value : FnScope N__law_value ["_law_pen_here"] (defScope st__law_value) := ⟨rfl, rfl, rfl, by decide +kernel, rfl, by decide +kernel, by decide +kernel⟩
def e__law_value : Sv := sSeq (sSet 1 (eApp hLst (eCons (eC .non) (eCons (eC (.bl true)) (eCons (eC (.int 0)) (eCons (eUn hNeg (eC (.int 5))) (eCons (eOp hPow (eC (.int 10)) (eC (.int 57))) (eCons (eC (.str "")) (eCons (eC (.str "word")) (eCons (eApp hTup (eCons (eC (.str "a")) (eCons (eC (.int 1)) (eNil)))) (eCons (eApp hLst (eCons (eApp hLst (eNil)) (eNil))) (eCons (eFrz (eDisp ((eC (.str "c"), eC (.int 3)) :: []))) (eCons (eOp hMulA (eC (.str "w")) (eC (.int 30))) (eCons (eApp hLst (eNil)) (eNil)))))))))))))))
    (sRet (eApp (callG 2 g__law_pick []) (eCons (eVar 0) (eCons (eOp hAdd (eVar 1) (eApp hLst (eCons (eApp (callG 2 g__law_draw []) (eCons (eVar 0) (eCons (eOp hPow (eC (.int 10)) (eC (.int 8))) (eNil)))) (eNil)))) (eNil)))))
def g__law_value : List A → Store → Out A := defF 2 e__law_value
theorem ok__law_value (T : TX K mg) : FnR P w K mg base (cls K) 3 (He.ga K "_law_value") ["_law_pen_here"] g__law_value :=
  fnR_mk (N := N__law_value) (k := 2) (fb := e__law_value) (T.c.def_ 5) sc__law_value (fun _ _ _ _ _ _ us hl => match us, hl with | [_], _ => rfl) fun cdv A outer s H E hr B =>
    (sss_cons (ss_set 1 sc__law_value.nd (se_lst (sa_cons se_non (sa_cons se_bl (sa_cons se_int (sa_cons (se_un u_neg se_int) (sa_cons (se_op o_pow se_int se_int) (sa_cons se_str (sa_cons se_str (sa_cons (se_tup (sa_cons se_str (sa_cons se_int sa_nil))) (sa_cons (se_lst (sa_cons (se_lst sa_nil) sa_nil)) (sa_cons (se_frz (se_disp (sp_cons se_str se_int sp_nil))) (sa_cons (se_op o_mulA se_str se_int) (sa_cons (se_lst sa_nil) sa_nil))))))))))))))
      (sss_one (ss_ret (se_fn (ok__law_pick T) B (hr.mono (by decide)) (T.glo 40) (sa_cons (se_var 0) (sa_cons (se_op o_add (se_var 1) (se_lst (sa_cons (se_fn (ok__law_draw T) B (hr.mono (by decide)) (T.glo 39) (sa_cons (se_var 0) (sa_cons (se_op o_pow se_int se_int) sa_nil))) sa_nil))) sa_nil))))))
abbrev st__law_parted : Stmt := topS 41
abbrev N__law_parted : List Str := ["_law_thing", "_law_made", "_law_error", "_law_sign"]
theorem sc__law_parted : FnScope N__law_parted ["_law_thing"] (defScope st__law_parted) := ⟨rfl, rfl, rfl, by decide +kernel, rfl, by decide +kernel, by decide +kernel⟩
def e__law_parted : Sv := sSeq (sSet 1 (eApp hLst (eCons (eApp hTup (eCons (eApp (hMkX 4 ["part"]) (eCons (eVar 0) (eNil))) (eCons (eC (.str "shape")) (eNil)))) (eCons (eApp hTup (eCons (eApp (hMkK 4 ["part"] 1 [0]) (eCons (eVar 0) (eNil))) (eCons (eC (.str "shape")) (eNil)))) (eCons (eApp hTup (eCons (eApp (hMkX 5 ["part"]) (eCons (eVar 0) (eNil))) (eCons (eC (.str "table")) (eNil)))) (eNil))))))
    (sSeq (sSet 1 (eOp hAdd (eVar 1) (eApp hLst (eCons (eApp hTup (eCons (eApp (hMkK 5 ["part"] 1 [0]) (eCons (eVar 0) (eNil))) (eCons (eC (.str "table")) (eNil)))) (eCons (eApp hTup (eCons (eApp (hMkX 6 ["part"]) (eCons (eVar 0) (eNil))) (eCons (eC (.str "part")) (eNil)))) (eCons (eApp hTup (eCons (eApp (hMkK 6 ["part"] 1 [0]) (eCons (eVar 0) (eNil))) (eCons (eC (.str "part")) (eNil)))) (eNil)))))))
    (sSeq (sSet 1 (eOp hAdd (eVar 1) (eApp hLst (eCons (eApp hTup (eCons (eApp (hMkX 7 ["part"]) (eCons (eVar 0) (eNil))) (eCons (eC (.str "question")) (eNil)))) (eCons (eApp hTup (eCons (eApp (hMkK 7 ["part"] 1 [0]) (eCons (eVar 0) (eNil))) (eCons (eC (.str "question")) (eNil)))) (eCons (eApp hTup (eCons (eApp (hMkX 8 ["part"]) (eCons (eVar 0) (eNil))) (eCons (eC (.str "span")) (eNil)))) (eNil)))))))
    (sSeq (sSet 1 (eOp hAdd (eVar 1) (eApp hLst (eCons (eApp hTup (eCons (eApp (hMkK 8 ["part"] 1 [0]) (eCons (eVar 0) (eNil))) (eCons (eC (.str "span")) (eNil)))) (eCons (eApp hTup (eCons (eApp (hMkX 9 ["part"]) (eCons (eVar 0) (eNil))) (eCons (eC (.str "kind")) (eNil)))) (eCons (eApp hTup (eCons (eApp (hMkK 9 ["part"] 1 [0]) (eCons (eVar 0) (eNil))) (eCons (eC (.str "kind")) (eNil)))) (eNil)))))))
    (sSeq (sSet 1 (eOp hAdd (eVar 1) (eApp hLst (eCons (eApp hTup (eCons (eApp (hMkX 10 ["part"]) (eCons (eVar 0) (eNil))) (eCons (eC (.str "layout")) (eNil)))) (eCons (eApp hTup (eCons (eApp (hMkK 10 ["part"] 1 [0]) (eCons (eVar 0) (eNil))) (eCons (eC (.str "layout")) (eNil)))) (eCons (eApp hTup (eCons (eApp (hMkX 11 ["part"]) (eCons (eVar 0) (eNil))) (eCons (eC (.str "rule")) (eNil)))) (eNil)))))))
    (sSeq (sSet 1 (eOp hAdd (eVar 1) (eApp hLst (eCons (eApp hTup (eCons (eApp (hMkK 11 ["part"] 1 [0]) (eCons (eVar 0) (eNil))) (eCons (eC (.str "rule")) (eNil)))) (eCons (eApp hTup (eCons (eApp (hMkX 12 ["part"]) (eCons (eVar 0) (eNil))) (eCons (eC (.str "plan")) (eNil)))) (eCons (eApp hTup (eCons (eApp (hMkK 12 ["part"] 1 [0]) (eCons (eVar 0) (eNil))) (eCons (eC (.str "plan")) (eNil)))) (eNil)))))))
    (sSeq (sSet 1 (eOp hAdd (eVar 1) (eApp hLst (eCons (eApp hTup (eCons (eApp (hMkX 13 ["part"]) (eCons (eVar 0) (eNil))) (eCons (eC (.str "order")) (eNil)))) (eCons (eApp hTup (eCons (eApp (hMkK 13 ["part"] 1 [0]) (eCons (eVar 0) (eNil))) (eCons (eC (.str "order")) (eNil)))) (eCons (eApp hTup (eCons (eApp (hMkX 14 ["part"]) (eCons (eVar 0) (eNil))) (eCons (eC (.str "vault")) (eNil)))) (eNil)))))))
    (sSeq (sSet 1 (eOp hAdd (eVar 1) (eApp hLst (eCons (eApp hTup (eCons (eApp (hMkK 14 ["part"] 1 [0]) (eCons (eVar 0) (eNil))) (eCons (eC (.str "vault")) (eNil)))) (eCons (eApp hTup (eCons (eApp (hMkX 15 ["part"]) (eCons (eVar 0) (eNil))) (eCons (eC (.str "book")) (eNil)))) (eCons (eApp hTup (eCons (eApp (hMkK 15 ["part"] 1 [0]) (eCons (eVar 0) (eNil))) (eCons (eC (.str "book")) (eNil)))) (eNil)))))))
    (sSeq (sSet 1 (eOp hAdd (eVar 1) (eApp hLst (eCons (eApp hTup (eCons (eApp (hMkX 16 ["part"]) (eCons (eVar 0) (eNil))) (eCons (eC (.str "poly")) (eNil)))) (eCons (eApp hTup (eCons (eApp (hMkK 16 ["part"] 1 [0]) (eCons (eVar 0) (eNil))) (eCons (eC (.str "poly")) (eNil)))) (eCons (eApp hTup (eCons (eApp (hMkX 17 ["part"]) (eCons (eVar 0) (eNil))) (eCons (eC (.str "sites")) (eNil)))) (eNil)))))))
    (sSeq (sSet 1 (eOp hAdd (eVar 1) (eApp hLst (eCons (eApp hTup (eCons (eApp (hMkK 17 ["part"] 1 [0]) (eCons (eVar 0) (eNil))) (eCons (eC (.str "sites")) (eNil)))) (eNil)))))
    (sRet (eLc [2, 3] (iSeq (eVar 1)) (gTupE 2 (gMore (gSet 2) (gMore (gSet 3) (gNone)))) (tYesE) (eApp hTup (eCons (eVar 2) (eCons (eApp hLst (eCons (eC (.str "input")) (eCons (eVar 3) (eNil)))) (eCons (eUn (hAttr ct "part") (eVar 2)) (eNil))))))))))))))))
def g__law_parted : List A → Store → Out A := defF 4 e__law_parted
theorem ok__law_parted (T : TX K mg) : FnR P w K mg base (cls K) 3 (He.ga K "_law_parted") ["_law_thing"] g__law_parted :=
  fnR_mk (N := N__law_parted) (k := 2) (fb := e__law_parted) (T.c.def_ 6) sc__law_parted (fun _ _ _ _ _ _ us hl => match us, hl with | [_], _ => rfl) fun cdv A outer s H E hr B =>
    (sss_cons (ss_set 1 sc__law_parted.nd (se_lst (sa_cons (se_tup (sa_cons (se_mkx (mk_BadShape T) (hr.mono (by decide)) (T.glo 19) (sa_cons (se_var 0) sa_nil)) (sa_cons se_str sa_nil))) (sa_cons (se_tup (sa_cons (se_mkk (mk_BadShape T) 0 (hr.mono (by decide)) (T.glo 19) (sk_cons (se_var 0) sk_nil)) (sa_cons se_str sa_nil))) (sa_cons (se_tup (sa_cons (se_mkx (mk_BadTable T) (hr.mono (by decide)) (T.glo 21) (sa_cons (se_var 0) sa_nil)) (sa_cons se_str sa_nil))) sa_nil)))))
      (sss_cons (ss_set 1 sc__law_parted.nd (se_op o_add (se_var 1) (se_lst (sa_cons (se_tup (sa_cons (se_mkk (mk_BadTable T) 0 (hr.mono (by decide)) (T.glo 21) (sk_cons (se_var 0) sk_nil)) (sa_cons se_str sa_nil))) (sa_cons (se_tup (sa_cons (se_mkx (mk_BadPart T) (hr.mono (by decide)) (T.glo 12) (sa_cons (se_var 0) sa_nil)) (sa_cons se_str sa_nil))) (sa_cons (se_tup (sa_cons (se_mkk (mk_BadPart T) 0 (hr.mono (by decide)) (T.glo 12) (sk_cons (se_var 0) sk_nil)) (sa_cons se_str sa_nil))) sa_nil))))))
      (sss_cons (ss_set 1 sc__law_parted.nd (se_op o_add (se_var 1) (se_lst (sa_cons (se_tup (sa_cons (se_mkx (mk_BadQuestion T) (hr.mono (by decide)) (T.glo 17) (sa_cons (se_var 0) sa_nil)) (sa_cons se_str sa_nil))) (sa_cons (se_tup (sa_cons (se_mkk (mk_BadQuestion T) 0 (hr.mono (by decide)) (T.glo 17) (sk_cons (se_var 0) sk_nil)) (sa_cons se_str sa_nil))) (sa_cons (se_tup (sa_cons (se_mkx (mk_BadSpan T) (hr.mono (by decide)) (T.glo 18) (sa_cons (se_var 0) sa_nil)) (sa_cons se_str sa_nil))) sa_nil))))))
      (sss_cons (ss_set 1 sc__law_parted.nd (se_op o_add (se_var 1) (se_lst (sa_cons (se_tup (sa_cons (se_mkk (mk_BadSpan T) 0 (hr.mono (by decide)) (T.glo 18) (sk_cons (se_var 0) sk_nil)) (sa_cons se_str sa_nil))) (sa_cons (se_tup (sa_cons (se_mkx (mk_BadKind T) (hr.mono (by decide)) (T.glo 9) (sa_cons (se_var 0) sa_nil)) (sa_cons se_str sa_nil))) (sa_cons (se_tup (sa_cons (se_mkk (mk_BadKind T) 0 (hr.mono (by decide)) (T.glo 9) (sk_cons (se_var 0) sk_nil)) (sa_cons se_str sa_nil))) sa_nil))))))
      (sss_cons (ss_set 1 sc__law_parted.nd (se_op o_add (se_var 1) (se_lst (sa_cons (se_tup (sa_cons (se_mkx (mk_BadLayout T) (hr.mono (by decide)) (T.glo 8) (sa_cons (se_var 0) sa_nil)) (sa_cons se_str sa_nil))) (sa_cons (se_tup (sa_cons (se_mkk (mk_BadLayout T) 0 (hr.mono (by decide)) (T.glo 8) (sk_cons (se_var 0) sk_nil)) (sa_cons se_str sa_nil))) (sa_cons (se_tup (sa_cons (se_mkx (mk_BadRule T) (hr.mono (by decide)) (T.glo 16) (sa_cons (se_var 0) sa_nil)) (sa_cons se_str sa_nil))) sa_nil))))))
      (sss_cons (ss_set 1 sc__law_parted.nd (se_op o_add (se_var 1) (se_lst (sa_cons (se_tup (sa_cons (se_mkk (mk_BadRule T) 0 (hr.mono (by decide)) (T.glo 16) (sk_cons (se_var 0) sk_nil)) (sa_cons se_str sa_nil))) (sa_cons (se_tup (sa_cons (se_mkx (mk_BadPlan T) (hr.mono (by decide)) (T.glo 14) (sa_cons (se_var 0) sa_nil)) (sa_cons se_str sa_nil))) (sa_cons (se_tup (sa_cons (se_mkk (mk_BadPlan T) 0 (hr.mono (by decide)) (T.glo 14) (sk_cons (se_var 0) sk_nil)) (sa_cons se_str sa_nil))) sa_nil))))))
      (sss_cons (ss_set 1 sc__law_parted.nd (se_op o_add (se_var 1) (se_lst (sa_cons (se_tup (sa_cons (se_mkx (mk_BadOrder T) (hr.mono (by decide)) (T.glo 13) (sa_cons (se_var 0) sa_nil)) (sa_cons se_str sa_nil))) (sa_cons (se_tup (sa_cons (se_mkk (mk_BadOrder T) 0 (hr.mono (by decide)) (T.glo 13) (sk_cons (se_var 0) sk_nil)) (sa_cons se_str sa_nil))) (sa_cons (se_tup (sa_cons (se_mkx (mk_BadVault T) (hr.mono (by decide)) (T.glo 22) (sa_cons (se_var 0) sa_nil)) (sa_cons se_str sa_nil))) sa_nil))))))
      (sss_cons (ss_set 1 sc__law_parted.nd (se_op o_add (se_var 1) (se_lst (sa_cons (se_tup (sa_cons (se_mkk (mk_BadVault T) 0 (hr.mono (by decide)) (T.glo 22) (sk_cons (se_var 0) sk_nil)) (sa_cons se_str sa_nil))) (sa_cons (se_tup (sa_cons (se_mkx (mk_BadBook T) (hr.mono (by decide)) (T.glo 7) (sa_cons (se_var 0) sa_nil)) (sa_cons se_str sa_nil))) (sa_cons (se_tup (sa_cons (se_mkk (mk_BadBook T) 0 (hr.mono (by decide)) (T.glo 7) (sk_cons (se_var 0) sk_nil)) (sa_cons se_str sa_nil))) sa_nil))))))
      (sss_cons (ss_set 1 sc__law_parted.nd (se_op o_add (se_var 1) (se_lst (sa_cons (se_tup (sa_cons (se_mkx (mk_BadPoly T) (hr.mono (by decide)) (T.glo 31) (sa_cons (se_var 0) sa_nil)) (sa_cons se_str sa_nil))) (sa_cons (se_tup (sa_cons (se_mkk (mk_BadPoly T) 0 (hr.mono (by decide)) (T.glo 31) (sk_cons (se_var 0) sk_nil)) (sa_cons se_str sa_nil))) (sa_cons (se_tup (sa_cons (se_mkx (mk_BadSites T) (hr.mono (by decide)) (T.glo 30) (sa_cons (se_var 0) sa_nil)) (sa_cons se_str sa_nil))) sa_nil))))))
      (sss_cons (ss_set 1 sc__law_parted.nd (se_op o_add (se_var 1) (se_lst (sa_cons (se_tup (sa_cons (se_mkk (mk_BadSites T) 0 (hr.mono (by decide)) (T.glo 30) (sk_cons (se_var 0) sk_nil)) (sa_cons se_str sa_nil))) sa_nil))))
      (sss_one (ss_ret (se_lc (own := [("_law_error", 2), ("_law_sign", 3)]) (g := gTupE 2 (gMore (gSet 2) (gMore (gSet 3) (gNone)))) (tt := tYesE) (te := eApp hTup (eCons (eVar 2) (eCons (eApp hLst (eCons (eC (.str "input")) (eCons (eVar 3) (eNil)))) (eCons (eUn (hAttr ct "part") (eVar 2)) (eNil))))) rfl sc__law_parted.nd (si_seq (se_var 1)) (blkOk_by (own := [("_law_error", 2), ("_law_sign", 3)]) (N := N__law_parted) (sc := defScope st__law_parted) (by decide +kernel)) (fun _ _ _ _ _ => (gx_tup (gsx_cons (gx_name 2 (by decide) sc__law_parted.nd) (gsx_cons (gx_name 3 (by decide) sc__law_parted.nd) gsx_nil)) rfl)) (fun _ _ _ _ _ => pts_none) (fun _ _ _ _ _ => (se_tup (sa_cons (se_var 2) (sa_cons (se_lst (sa_cons se_str (sa_cons (se_var 3) sa_nil))) (sa_cons (se_attr (ct_ok T) (se_var 2)) sa_nil))))))))))))))))))
abbrev st__law_valued : Stmt := topS 42
abbrev N__law_valued : List Str := ["_law_thing", "_law_made", "_law_found", "_law_line_so", "_law_untold_so", "_law_gone_so", "_law_taken_so", "_law_unit_so", "_law_name_so", "_law_error", "_law_sign"]
theorem sc__law_valued : FnScope N__law_valued ["_law_thing"] (defScope st__law_valued) := ⟨rfl, rfl, rfl, by decide +kernel, rfl, by decide +kernel, by decide +kernel⟩
def e__law_valued : Sv := sSeq (sSet 1 (eApp hLst (eCons (eApp hTup (eCons (eApp (hMkX 18 ["value"]) (eCons (eVar 0) (eNil))) (eCons (eC (.str "place")) (eNil)))) (eCons (eApp hTup (eCons (eApp (hMkK 18 ["value"] 1 [0]) (eCons (eVar 0) (eNil))) (eCons (eC (.str "place")) (eNil)))) (eCons (eApp hTup (eCons (eApp (hMkX 19 ["value"]) (eCons (eVar 0) (eNil))) (eCons (eC (.str "amount")) (eNil)))) (eNil))))))
    (sSeq (sSet 1 (eOp hAdd (eVar 1) (eApp hLst (eCons (eApp hTup (eCons (eApp (hMkK 19 ["value"] 1 [0]) (eCons (eVar 0) (eNil))) (eCons (eC (.str "amount")) (eNil)))) (eCons (eApp hTup (eCons (eApp (hMkX 20 ["value"]) (eCons (eVar 0) (eNil))) (eCons (eC (.str "unit")) (eNil)))) (eCons (eApp hTup (eCons (eApp (hMkK 20 ["value"] 1 [0]) (eCons (eVar 0) (eNil))) (eCons (eC (.str "unit")) (eNil)))) (eNil)))))))
    (sSeq (sSet 1 (eOp hAdd (eVar 1) (eApp hLst (eCons (eApp hTup (eCons (eApp (hMkX 21 ["value"]) (eCons (eVar 0) (eNil))) (eCons (eC (.str "count")) (eNil)))) (eCons (eApp hTup (eCons (eApp (hMkK 21 ["value"] 1 [0]) (eCons (eVar 0) (eNil))) (eCons (eC (.str "count")) (eNil)))) (eCons (eApp hTup (eCons (eApp (hMkX 22 ["value"]) (eCons (eVar 0) (eNil))) (eCons (eC (.str "name")) (eNil)))) (eNil)))))))
    (sSeq (sSet 1 (eOp hAdd (eVar 1) (eApp hLst (eCons (eApp hTup (eCons (eApp (hMkK 22 ["value"] 1 [0]) (eCons (eVar 0) (eNil))) (eCons (eC (.str "name")) (eNil)))) (eNil)))))
    (sSeq (sSet 2 (eLcN [9, 10] (iSeq (eVar 1)) (gTupE 2 (gMore (gSet 9) (gMore (gSet 10) (gNone)))) (tYesE) (eApp hTup (eCons (eVar 9) (eCons (eApp hLst (eCons (eC (.str "input")) (eCons (eVar 10) (eNil)))) (eCons (eUn (hAttr ct "value") (eVar 9)) (eNil)))))))
    (sSeq (sFor (iSeq (eApp hLst (eCons (eApp (hMkX 24 ["word"]) (eCons (eVar 0) (eNil))) (eCons (eApp (hMkK 24 ["word"] 1 [0]) (eCons (eVar 0) (eNil))) (eNil))))) (gSet 3)
    (sDrop (eAppend (eVar 2) (eApp hTup (eCons (eVar 3) (eCons (eApp hLst (eCons (eC (.str "input")) (eCons (eC (.str "line")) (eNil)))) (eCons (eUn (hAttr ct "word") (eVar 3)) (eNil))))))))
    (sSeq (sFor (iSeq (eApp hLst (eCons (eApp (hMkX 26 ["paper"]) (eCons (eVar 0) (eNil))) (eCons (eApp (hMkK 26 ["paper"] 1 [0]) (eCons (eVar 0) (eNil))) (eNil))))) (gSet 4)
    (sDrop (eAppend (eVar 2) (eApp hTup (eCons (eVar 4) (eCons (eApp hLst (eCons (eC (.str "refused")) (eCons (eC (.str "untold")) (eNil)))) (eCons (eUn (hAttr ct "paper") (eVar 4)) (eNil))))))))
    (sSeq (sFor (iSeq (eApp hLst (eCons (eApp (hMkX 27 ["unit"]) (eCons (eVar 0) (eNil))) (eCons (eApp (hMkK 27 ["unit"] 1 [0]) (eCons (eVar 0) (eNil))) (eNil))))) (gSet 5)
    (sDrop (eAppend (eVar 2) (eApp hTup (eCons (eVar 5) (eCons (eApp hLst (eCons (eC (.str "refused")) (eCons (eC (.str "gone")) (eNil)))) (eCons (eUn (hAttr ct "unit") (eVar 5)) (eNil))))))))
    (sSeq (sFor (iSeq (eApp hLst (eCons (eApp (hMkX 29 ["name"]) (eCons (eVar 0) (eNil))) (eCons (eApp (hMkK 29 ["name"] 1 [0]) (eCons (eVar 0) (eNil))) (eNil))))) (gSet 6)
    (sDrop (eAppend (eVar 2) (eApp hTup (eCons (eVar 6) (eCons (eApp hLst (eCons (eC (.str "refused")) (eCons (eC (.str "taken")) (eNil)))) (eCons (eUn (hAttr ct "name") (eVar 6)) (eNil))))))))
    (sSeq (sFor (iSeq (eApp hLst (eCons (eApp (hMkX 30 ["unit"]) (eCons (eVar 0) (eNil))) (eCons (eApp (hMkK 30 ["unit"] 1 [0]) (eCons (eVar 0) (eNil))) (eNil))))) (gSet 7)
    (sDrop (eAppend (eVar 2) (eApp hTup (eCons (eVar 7) (eCons (eApp hLst (eCons (eC (.str "answer")) (eCons (eC (.str "no unit")) (eNil)))) (eCons (eUn (hAttr ct "unit") (eVar 7)) (eNil))))))))
    (sSeq (sFor (iSeq (eApp hLst (eCons (eApp (hMkX 31 ["name"]) (eCons (eVar 0) (eNil))) (eCons (eApp (hMkK 31 ["name"] 1 [0]) (eCons (eVar 0) (eNil))) (eNil))))) (gSet 8)
    (sDrop (eAppend (eVar 2) (eApp hTup (eCons (eVar 8) (eCons (eApp hLst (eCons (eC (.str "answer")) (eCons (eC (.str "no name")) (eNil)))) (eCons (eUn (hAttr ct "name") (eVar 8)) (eNil))))))))
    (sRet (eFrz (eVar 2)))))))))))))
def g__law_valued : List A → Store → Out A := defF 11 e__law_valued
theorem ok__law_valued (T : TX K mg) : FnR P w K mg base (cls K) 3 (He.ga K "_law_valued") ["_law_thing"] g__law_valued :=
  fnR_mk (N := N__law_valued) (k := 2) (fb := e__law_valued) (T.c.def_ 7) sc__law_valued (fun _ _ _ _ _ _ us hl => match us, hl with | [_], _ => rfl) fun cdv A outer s H E hr B =>
    (sss_cons (ss_set 1 sc__law_valued.nd (se_lst (sa_cons (se_tup (sa_cons (se_mkx (mk_BadPlace T) (hr.mono (by decide)) (T.glo 15) (sa_cons (se_var 0) sa_nil)) (sa_cons se_str sa_nil))) (sa_cons (se_tup (sa_cons (se_mkk (mk_BadPlace T) 0 (hr.mono (by decide)) (T.glo 15) (sk_cons (se_var 0) sk_nil)) (sa_cons se_str sa_nil))) (sa_cons (se_tup (sa_cons (se_mkx (mk_BadAmount T) (hr.mono (by decide)) (T.glo 4) (sa_cons (se_var 0) sa_nil)) (sa_cons se_str sa_nil))) sa_nil)))))
      (sss_cons (ss_set 1 sc__law_valued.nd (se_op o_add (se_var 1) (se_lst (sa_cons (se_tup (sa_cons (se_mkk (mk_BadAmount T) 0 (hr.mono (by decide)) (T.glo 4) (sk_cons (se_var 0) sk_nil)) (sa_cons se_str sa_nil))) (sa_cons (se_tup (sa_cons (se_mkx (mk_BadUnit T) (hr.mono (by decide)) (T.glo 23) (sa_cons (se_var 0) sa_nil)) (sa_cons se_str sa_nil))) (sa_cons (se_tup (sa_cons (se_mkk (mk_BadUnit T) 0 (hr.mono (by decide)) (T.glo 23) (sk_cons (se_var 0) sk_nil)) (sa_cons se_str sa_nil))) sa_nil))))))
      (sss_cons (ss_set 1 sc__law_valued.nd (se_op o_add (se_var 1) (se_lst (sa_cons (se_tup (sa_cons (se_mkx (mk_BadCount T) (hr.mono (by decide)) (T.glo 6) (sa_cons (se_var 0) sa_nil)) (sa_cons se_str sa_nil))) (sa_cons (se_tup (sa_cons (se_mkk (mk_BadCount T) 0 (hr.mono (by decide)) (T.glo 6) (sk_cons (se_var 0) sk_nil)) (sa_cons se_str sa_nil))) (sa_cons (se_tup (sa_cons (se_mkx (mk_BadName T) (hr.mono (by decide)) (T.glo 10) (sa_cons (se_var 0) sa_nil)) (sa_cons se_str sa_nil))) sa_nil))))))
      (sss_cons (ss_set 1 sc__law_valued.nd (se_op o_add (se_var 1) (se_lst (sa_cons (se_tup (sa_cons (se_mkk (mk_BadName T) 0 (hr.mono (by decide)) (T.glo 10) (sk_cons (se_var 0) sk_nil)) (sa_cons se_str sa_nil))) sa_nil))))
      (sss_cons (ss_setLcN 2 (own := [("_law_error", 9), ("_law_sign", 10)]) (g := gTupE 2 (gMore (gSet 9) (gMore (gSet 10) (gNone)))) (tt := tYesE) (te := eApp hTup (eCons (eVar 9) (eCons (eApp hLst (eCons (eC (.str "input")) (eCons (eVar 10) (eNil)))) (eCons (eUn (hAttr ct "value") (eVar 9)) (eNil))))) rfl sc__law_valued.nd (sw_true rfl rfl rfl (by decide +kernel)) (si_seq (se_var 1)) (blkOk_by (own := [("_law_error", 9), ("_law_sign", 10)]) (N := N__law_valued) (sc := defScope st__law_valued) (by decide +kernel)) (fun _ _ _ _ _ => (gx_tup (gsx_cons (gx_name 9 (by decide) sc__law_valued.nd) (gsx_cons (gx_name 10 (by decide) sc__law_valued.nd) gsx_nil)) rfl)) (fun _ _ _ _ _ => pts_none) (fun _ _ _ _ _ => (se_tup (sa_cons (se_var 9) (sa_cons (se_lst (sa_cons se_str (sa_cons (se_var 10) sa_nil))) (sa_cons (se_attr (ct_ok T) (se_var 9)) sa_nil))))))
      (sss_cons (ss_for B (si_seq (se_lst (sa_cons (se_mkx (mk_BadLine T) (hr.mono (by decide)) (T.glo 11) (sa_cons (se_var 0) sa_nil)) (sa_cons (se_mkk (mk_BadLine T) 0 (hr.mono (by decide)) (T.glo 11) (sk_cons (se_var 0) sk_nil)) sa_nil)))) (sg_name 3 sc__law_valued.nd)
      (sss_one (ss_expr (se_append (se_var 2) (se_tup (sa_cons (se_var 3) (sa_cons (se_lst (sa_cons se_str (sa_cons se_str sa_nil))) (sa_cons (se_attr (ct_ok T) (se_var 3)) sa_nil))))))))
      (sss_cons (ss_for B (si_seq (se_lst (sa_cons (se_mkx (mk_Untold T) (hr.mono (by decide)) (T.glo 29) (sa_cons (se_var 0) sa_nil)) (sa_cons (se_mkk (mk_Untold T) 0 (hr.mono (by decide)) (T.glo 29) (sk_cons (se_var 0) sk_nil)) sa_nil)))) (sg_name 4 sc__law_valued.nd)
      (sss_one (ss_expr (se_append (se_var 2) (se_tup (sa_cons (se_var 4) (sa_cons (se_lst (sa_cons se_str (sa_cons se_str sa_nil))) (sa_cons (se_attr (ct_ok T) (se_var 4)) sa_nil))))))))
      (sss_cons (ss_for B (si_seq (se_lst (sa_cons (se_mkx (mk_Gone T) (hr.mono (by decide)) (T.glo 25) (sa_cons (se_var 0) sa_nil)) (sa_cons (se_mkk (mk_Gone T) 0 (hr.mono (by decide)) (T.glo 25) (sk_cons (se_var 0) sk_nil)) sa_nil)))) (sg_name 5 sc__law_valued.nd)
      (sss_one (ss_expr (se_append (se_var 2) (se_tup (sa_cons (se_var 5) (sa_cons (se_lst (sa_cons se_str (sa_cons se_str sa_nil))) (sa_cons (se_attr (ct_ok T) (se_var 5)) sa_nil))))))))
      (sss_cons (ss_for B (si_seq (se_lst (sa_cons (se_mkx (mk_Taken T) (hr.mono (by decide)) (T.glo 24) (sa_cons (se_var 0) sa_nil)) (sa_cons (se_mkk (mk_Taken T) 0 (hr.mono (by decide)) (T.glo 24) (sk_cons (se_var 0) sk_nil)) sa_nil)))) (sg_name 6 sc__law_valued.nd)
      (sss_one (ss_expr (se_append (se_var 2) (se_tup (sa_cons (se_var 6) (sa_cons (se_lst (sa_cons se_str (sa_cons se_str sa_nil))) (sa_cons (se_attr (ct_ok T) (se_var 6)) sa_nil))))))))
      (sss_cons (ss_for B (si_seq (se_lst (sa_cons (se_mkx (mk_NoUnit T) (hr.mono (by decide)) (T.glo 32) (sa_cons (se_var 0) sa_nil)) (sa_cons (se_mkk (mk_NoUnit T) 0 (hr.mono (by decide)) (T.glo 32) (sk_cons (se_var 0) sk_nil)) sa_nil)))) (sg_name 7 sc__law_valued.nd)
      (sss_one (ss_expr (se_append (se_var 2) (se_tup (sa_cons (se_var 7) (sa_cons (se_lst (sa_cons se_str (sa_cons se_str sa_nil))) (sa_cons (se_attr (ct_ok T) (se_var 7)) sa_nil))))))))
      (sss_cons (ss_for B (si_seq (se_lst (sa_cons (se_mkx (mk_NoName T) (hr.mono (by decide)) (T.glo 33) (sa_cons (se_var 0) sa_nil)) (sa_cons (se_mkk (mk_NoName T) 0 (hr.mono (by decide)) (T.glo 33) (sk_cons (se_var 0) sk_nil)) sa_nil)))) (sg_name 8 sc__law_valued.nd)
      (sss_one (ss_expr (se_append (se_var 2) (se_tup (sa_cons (se_var 8) (sa_cons (se_lst (sa_cons se_str (sa_cons se_str sa_nil))) (sa_cons (se_attr (ct_ok T) (se_var 8)) sa_nil))))))))
      (sss_one (ss_ret (se_frz (se_var 2)))))))))))))))
abbrev st__law_pairs_right : Stmt := topS 43
abbrev N__law_pairs_right : List Str := ["_law_thing", "_law_more", "_law_told", "_law_text_so", "_law_much"]
theorem sc__law_pairs_right : FnScope N__law_pairs_right ["_law_thing", "_law_more"] (defScope st__law_pairs_right) := ⟨rfl, rfl, rfl, by decide +kernel, rfl, by decide +kernel, by decide +kernel⟩
def e__law_pairs_right : Sv := sSeq (sSet 2 (eApp hLstN (eNil)))
    (sSeq (sFor (iSeq (eApp hLst (eCons (eApp (hMkX 23 ["line", "word"]) (eCons (eVar 0) (eCons (eVar 1) (eNil)))) (eCons (eApp (hMkK 23 ["line", "word"] 2 [1, 0]) (eCons (eVar 1) (eCons (eVar 0) (eNil)))) (eNil))))) (gSet 3)
    (sSeq (sDrop (eAppend (eVar 2) (eOp hEq (eApp (callG 1 g__law_kinds []) (eCons (eVar 3) (eNil))) (eApp hLst (eCons (eC (.str "input")) (eCons (eC (.str "text")) (eNil)))))))
    (sDrop (eAppend (eVar 2) (eOp hEq (eApp hRepr (eCons (eApp hLst (eCons (eUn (hAttr ct "line") (eVar 3)) (eCons (eUn (hAttr ct "word") (eVar 3)) (eNil)))) (eNil))) (eApp hRepr (eCons (eApp hLst (eCons (eVar 0) (eCons (eVar 1) (eNil)))) (eNil))))))))
    (sSeq (sFor (iSeq (eApp hLst (eCons (eApp (hMkX 25 ["what", "most"]) (eCons (eVar 0) (eCons (eVar 1) (eNil)))) (eCons (eApp (hMkK 25 ["what", "most"] 2 [1, 0]) (eCons (eVar 1) (eCons (eVar 0) (eNil)))) (eNil))))) (gSet 4)
    (sSeq (sDrop (eAppend (eVar 2) (eOp hEq (eApp (callG 1 g__law_kinds []) (eCons (eVar 4) (eNil))) (eApp hLst (eCons (eC (.str "refused")) (eCons (eC (.str "too many")) (eNil)))))))
    (sDrop (eAppend (eVar 2) (eOp hEq (eApp hRepr (eCons (eApp hLst (eCons (eUn (hAttr ct "what") (eVar 4)) (eCons (eUn (hAttr ct "most") (eVar 4)) (eNil)))) (eNil))) (eApp hRepr (eCons (eApp hLst (eCons (eVar 0) (eCons (eVar 1) (eNil)))) (eNil))))))))
    (sRet (eOp hNotIn (eC (.bl false)) (eVar 2)))))
def g__law_pairs_right : List A → Store → Out A := defF 5 e__law_pairs_right
theorem ok__law_pairs_right (T : TX K mg) : FnR P w K mg base (cls K) 3 (He.ga K "_law_pairs_right") ["_law_thing", "_law_more"] g__law_pairs_right :=
  fnR_mk (N := N__law_pairs_right) (k := 2) (fb := e__law_pairs_right) (T.c.def_ 8) sc__law_pairs_right (fun _ _ _ _ _ _ us hl => match us, hl with | [_, _], _ => rfl) fun cdv A outer s H E hr B =>
    (sss_cons (ss_set 2 sc__law_pairs_right.nd (se_lstN sa_nil))
      (sss_cons (ss_for B (si_seq (se_lst (sa_cons (se_mkx (mk_BadText T) (hr.mono (by decide)) (T.glo 20) (sa_cons (se_var 0) (sa_cons (se_var 1) sa_nil))) (sa_cons (se_mkk (mk_BadText T) 0 (hr.mono (by decide)) (T.glo 20) (sk_cons (se_var 1) (sk_cons (se_var 0) sk_nil))) sa_nil)))) (sg_name 3 sc__law_pairs_right.nd)
      (sss_cons (ss_expr (se_append (se_var 2) (se_cmp (o_eq hr.units) (se_fn (ok__law_kinds T) B (hr.mono (by decide)) (T.glo 41) (sa_cons (se_var 3) sa_nil)) (se_lst (sa_cons se_str (sa_cons se_str sa_nil))))))
      (sss_one (ss_expr (se_append (se_var 2) (se_cmp (o_eq hr.units) (se_callB (b_repr B.gd hr.units) (T.free 42) (sa_cons (se_lst (sa_cons (se_attr (ct_ok T) (se_var 3)) (sa_cons (se_attr (ct_ok T) (se_var 3)) sa_nil))) sa_nil)) (se_callB (b_repr B.gd hr.units) (T.free 42) (sa_cons (se_lst (sa_cons (se_var 0) (sa_cons (se_var 1) sa_nil))) sa_nil))))))))
      (sss_cons (ss_for B (si_seq (se_lst (sa_cons (se_mkx (mk_TooMany T) (hr.mono (by decide)) (T.glo 27) (sa_cons (se_var 0) (sa_cons (se_var 1) sa_nil))) (sa_cons (se_mkk (mk_TooMany T) 0 (hr.mono (by decide)) (T.glo 27) (sk_cons (se_var 1) (sk_cons (se_var 0) sk_nil))) sa_nil)))) (sg_name 4 sc__law_pairs_right.nd)
      (sss_cons (ss_expr (se_append (se_var 2) (se_cmp (o_eq hr.units) (se_fn (ok__law_kinds T) B (hr.mono (by decide)) (T.glo 41) (sa_cons (se_var 4) sa_nil)) (se_lst (sa_cons se_str (sa_cons se_str sa_nil))))))
      (sss_one (ss_expr (se_append (se_var 2) (se_cmp (o_eq hr.units) (se_callB (b_repr B.gd hr.units) (T.free 42) (sa_cons (se_lst (sa_cons (se_attr (ct_ok T) (se_var 4)) (sa_cons (se_attr (ct_ok T) (se_var 4)) sa_nil))) sa_nil)) (se_callB (b_repr B.gd hr.units) (T.free 42) (sa_cons (se_lst (sa_cons (se_var 0) (sa_cons (se_var 1) sa_nil))) sa_nil))))))))
      (sss_one (ss_ret (se_cmp (o_notIn (room65 hr)) se_bl (se_var 2)))))))
abbrev st_law : Stmt := topS 44
abbrev N_law : List Str := ["_law_script", "_law_pen_here", "_law_turn", "_law_thing", "_law_more", "_law_error", "_law_signs_here", "_law_field", "_law_groups"]
theorem sc_law : FnScope N_law ["_law_script"] (defScope st_law) := ⟨rfl, rfl, rfl, by decide +kernel, rfl, by decide +kernel, by decide +kernel⟩
def e_law : Sv := sSeq (sSet 1 (eApp (callG 1 g__law_pen []) (eCons (eVar 0) (eNil))))
    (sSeq (sFor (iRange1 (eCons (eC (.int 4)) (eNil))) (gSet 2)
    (sSeq (sPar 3 4 (eCons (eApp (callG 1 g__law_value []) (eCons (eVar 1) (eNil))) (eCons (eApp (callG 1 g__law_value []) (eCons (eVar 1) (eNil))) (eNil))))
    (sSeq (sFor (iSeq (eOp hAdd (eApp (callG 1 g__law_parted []) (eCons (eVar 3) (eNil))) (eApp (callG 1 g__law_valued []) (eCons (eVar 3) (eNil))))) (gTupE 3 (gMore (gSet 5) (gMore (gSet 6) (gMore (gSet 7) (gNone)))))
    (sIf (tOrE (tBool (eOp hNe (eApp hRepr (eCons (eVar 7) (eNil))) (eApp hRepr (eCons (eVar 3) (eNil))))) (tBool (eOp hNe (eApp (callG 1 g__law_kinds []) (eCons (eVar 5) (eNil))) (eVar 6)))) (sRet (eC (.bl false)))
    (sNext)))
    (sIf (tNotE (tBool (eApp (callG 2 g__law_pairs_right []) (eCons (eVar 3) (eCons (eVar 4) (eNil)))))) (sRet (eC (.bl false)))
    (sNext)))))
    (sSeq (sIf (tOrE (tBool (eOp hNe (eApp (callG 1 g__law_kinds []) (eCons (eC (.exc 28 [] [])) (eNil))) (eApp hLst (eCons (eC (.str "refused")) (eCons (eC (.str "torn")) (eNil)))))) (tBool (eOp hNe (eApp (callG 1 g__law_kinds []) (eCons (eC (.exc 32 [] [])) (eNil))) (eApp hLst (eCons (eC (.str "answer")) (eCons (eC (.str "no deed")) (eNil))))))) (sRet (eC (.bl false)))
    (sNext))
    (sSeq (sSet 8 (eApp hLst (eCons (eApp (callG 1 g__law_kinds []) (eCons (eC (.exc 0 [] [])) (eNil))) (eCons (eApp (callG 1 g__law_kinds []) (eCons (eC (.exc 1 [] [])) (eNil))) (eCons (eApp (callG 1 g__law_kinds []) (eCons (eC (.exc 2 [] [])) (eNil))) (eCons (eApp (callG 1 g__law_kinds []) (eCons (eC (.exc 3 [] [])) (eNil))) (eNil)))))))
    (sRet (eAndE (eOp hEq (eVar 8) (eApp hLst (eCons (eApp hLst (eNil)) (eCons (eApp hLst (eCons (eC (.str "input")) (eNil))) (eCons (eApp hLst (eCons (eC (.str "refused")) (eNil))) (eCons (eApp hLst (eCons (eC (.str "answer")) (eNil))) (eNil))))))) (eApp (hIsI ct) (eCons (eC (.exc 0 [] [])) (eCons (eC (.ty "ValueError")) (eNil)))))))))
def g_law : List A → Store → Out A := defF 9 e_law
theorem okG_law (T : TX K mg) {fd : FuncData} (F : FunD K "law" "law" (defArgs st_law) (defBody st_law) (defScope st_law) [] [] (He.ga K "law") fd) : FnG P w K mg base 4 (He.ga K "law") fd ["_law_script"] (SpF K (cls K) 1 g_law) :=
  fn_def (N := N_law) (k := 3) (fb := e_law) F sc_law fun cdv A outer s H E hr B =>
    (sss_cons (ss_set 1 sc_law.nd (se_fn (ok__law_pen T) B (hr.mono (by decide)) (T.glo 43) (sa_cons (se_var 0) sa_nil)))
      (sss_cons (ss_for B (si_range1 (sa_cons se_int sa_nil) (T.free 44)) (sg_name 2 sc_law.nd)
      (sss_cons (ss_par 3 4 sc_law.nd (sa_cons (se_fn (ok__law_value T) B (hr.mono (by decide)) (T.glo 45) (sa_cons (se_var 1) sa_nil)) (sa_cons (se_fn (ok__law_value T) B (hr.mono (by decide)) (T.glo 45) (sa_cons (se_var 1) sa_nil)) sa_nil)))
      (sss_cons (ss_for B (si_seq (se_op o_add (se_fn (ok__law_parted T) B (hr.mono (by decide)) (T.glo 46) (sa_cons (se_var 3) sa_nil)) (se_fn (ok__law_valued T) B (hr.mono (by decide)) (T.glo 47) (sa_cons (se_var 3) sa_nil)))) (sg_tup (sgs_cons (sg_name 5 sc_law.nd) (sgs_cons (sg_name 6 sc_law.nd) (sgs_cons (sg_name 7 sc_law.nd) sgs_nil B.hW) B.hW) B.hW))
      (sss_one (ss_if (SW.pt (sw_or (st_cmp (o_ne hr.units) (se_callB (b_repr B.gd hr.units) (T.free 42) (sa_cons (se_var 7) sa_nil)) (se_callB (b_repr B.gd hr.units) (T.free 42) (sa_cons (se_var 3) sa_nil))) (sw_or1 (st_cmp (o_ne hr.units) (se_fn (ok__law_kinds T) B (hr.mono (by decide)) (T.glo 41) (sa_cons (se_var 5) sa_nil)) (se_var 6))))) (sss_one (ss_ret se_bl))
      sss_nil)))
      (sss_one (ss_if (st_not (st_val (se_fn (ok__law_pairs_right T) B (hr.mono (by decide)) (T.glo 48) (sa_cons (se_var 3) (sa_cons (se_var 4) sa_nil))))) (sss_one (ss_ret se_bl))
      sss_nil)))))
      (sss_cons (ss_if (SW.pt (sw_or (st_cmp (o_ne hr.units) (se_fn (ok__law_kinds T) B (hr.mono (by decide)) (T.glo 41) (sa_cons (se_mk0 (mk0_Torn T) (T.glo 26)) sa_nil)) (se_lst (sa_cons se_str (sa_cons se_str sa_nil)))) (sw_or1 (st_cmp (o_ne hr.units) (se_fn (ok__law_kinds T) B (hr.mono (by decide)) (T.glo 41) (sa_cons (se_mk0 (mk0_NoDeed T) (T.glo 28)) sa_nil)) (se_lst (sa_cons se_str (sa_cons se_str sa_nil))))))) (sss_one (ss_ret se_bl))
      sss_nil)
      (sss_cons (ss_set 8 sc_law.nd (se_lst (sa_cons (se_fn (ok__law_kinds T) B (hr.mono (by decide)) (T.glo 41) (sa_cons (se_mk0 (mk0_VaultError T) (T.glo 34)) sa_nil)) (sa_cons (se_fn (ok__law_kinds T) B (hr.mono (by decide)) (T.glo 41) (sa_cons (se_mk0 (mk0_BadInput T) (T.glo 3)) sa_nil)) (sa_cons (se_fn (ok__law_kinds T) B (hr.mono (by decide)) (T.glo 41) (sa_cons (se_mk0 (mk0_Refused T) (T.glo 1)) sa_nil)) (sa_cons (se_fn (ok__law_kinds T) B (hr.mono (by decide)) (T.glo 41) (sa_cons (se_mk0 (mk0_NoAnswer T) (T.glo 5)) sa_nil)) sa_nil))))))
      (sss_one (ss_ret (se_and (se_cmp (o_eq hr.units) (se_var 8) (se_lst (sa_cons (se_lst sa_nil) (sa_cons (se_lst (sa_cons se_str sa_nil)) (sa_cons (se_lst (sa_cons se_str sa_nil)) (sa_cons (se_lst (sa_cons se_str sa_nil)) sa_nil)))))) (se_one (se_callB (b_isI (ct_ok T)) (T.free 2) (sa_cons (se_mk0 (mk0_VaultError T) (T.glo 34)) (sa_cons (se_ty (T.free 49)) sa_nil)))))))))))
end
end Lw


namespace Lw
open PySem L2 R
def dc : DrawC := ⟨39199, 4157, 2147483549, 48907, 1129, 2147483629, 677, 55733, 97, 2147483587⟩
theorem dc_ok : dc.ok = true := by decide
theorem g_draw : g__law_draw = defF 7 (drawE dc) := rfl
theorem g_pen : g__law_pen = defF 1 penE := rfl
theorem g_pick : g__law_pick = defF 2 (pickE (defF 7 (drawE dc))) := rfl
def partL (t : D) : List D := [(.tup [.exc 4 ["part"] [t], .lst [.str "input", .str "shape"], t] : D),
  (.tup [.exc 4 ["part"] [t], .lst [.str "input", .str "shape"], t] : D),
  (.tup [.exc 5 ["part"] [t], .lst [.str "input", .str "table"], t] : D),
  (.tup [.exc 5 ["part"] [t], .lst [.str "input", .str "table"], t] : D),
  (.tup [.exc 6 ["part"] [t], .lst [.str "input", .str "part"], t] : D),
  (.tup [.exc 6 ["part"] [t], .lst [.str "input", .str "part"], t] : D),
  (.tup [.exc 7 ["part"] [t], .lst [.str "input", .str "question"], t] : D),
  (.tup [.exc 7 ["part"] [t], .lst [.str "input", .str "question"], t] : D),
  (.tup [.exc 8 ["part"] [t], .lst [.str "input", .str "span"], t] : D),
  (.tup [.exc 8 ["part"] [t], .lst [.str "input", .str "span"], t] : D),
  (.tup [.exc 9 ["part"] [t], .lst [.str "input", .str "kind"], t] : D),
  (.tup [.exc 9 ["part"] [t], .lst [.str "input", .str "kind"], t] : D),
  (.tup [.exc 10 ["part"] [t], .lst [.str "input", .str "layout"], t] : D),
  (.tup [.exc 10 ["part"] [t], .lst [.str "input", .str "layout"], t] : D),
  (.tup [.exc 11 ["part"] [t], .lst [.str "input", .str "rule"], t] : D),
  (.tup [.exc 11 ["part"] [t], .lst [.str "input", .str "rule"], t] : D),
  (.tup [.exc 12 ["part"] [t], .lst [.str "input", .str "plan"], t] : D),
  (.tup [.exc 12 ["part"] [t], .lst [.str "input", .str "plan"], t] : D),
  (.tup [.exc 13 ["part"] [t], .lst [.str "input", .str "order"], t] : D),
  (.tup [.exc 13 ["part"] [t], .lst [.str "input", .str "order"], t] : D),
  (.tup [.exc 14 ["part"] [t], .lst [.str "input", .str "vault"], t] : D),
  (.tup [.exc 14 ["part"] [t], .lst [.str "input", .str "vault"], t] : D),
  (.tup [.exc 15 ["part"] [t], .lst [.str "input", .str "book"], t] : D),
  (.tup [.exc 15 ["part"] [t], .lst [.str "input", .str "book"], t] : D),
  (.tup [.exc 16 ["part"] [t], .lst [.str "input", .str "poly"], t] : D),
  (.tup [.exc 16 ["part"] [t], .lst [.str "input", .str "poly"], t] : D),
  (.tup [.exc 17 ["part"] [t], .lst [.str "input", .str "sites"], t] : D),
  (.tup [.exc 17 ["part"] [t], .lst [.str "input", .str "sites"], t] : D)]
def valL (t : D) : List D := [(.tup [.exc 18 ["value"] [t], .lst [.str "input", .str "place"], t] : D),
  (.tup [.exc 18 ["value"] [t], .lst [.str "input", .str "place"], t] : D),
  (.tup [.exc 19 ["value"] [t], .lst [.str "input", .str "amount"], t] : D),
  (.tup [.exc 19 ["value"] [t], .lst [.str "input", .str "amount"], t] : D),
  (.tup [.exc 20 ["value"] [t], .lst [.str "input", .str "unit"], t] : D),
  (.tup [.exc 20 ["value"] [t], .lst [.str "input", .str "unit"], t] : D),
  (.tup [.exc 21 ["value"] [t], .lst [.str "input", .str "count"], t] : D),
  (.tup [.exc 21 ["value"] [t], .lst [.str "input", .str "count"], t] : D),
  (.tup [.exc 22 ["value"] [t], .lst [.str "input", .str "name"], t] : D),
  (.tup [.exc 22 ["value"] [t], .lst [.str "input", .str "name"], t] : D),
  (.tup [.exc 24 ["word"] [t], .lst [.str "input", .str "line"], t] : D),
  (.tup [.exc 24 ["word"] [t], .lst [.str "input", .str "line"], t] : D),
  (.tup [.exc 26 ["paper"] [t], .lst [.str "refused", .str "untold"], t] : D),
  (.tup [.exc 26 ["paper"] [t], .lst [.str "refused", .str "untold"], t] : D),
  (.tup [.exc 27 ["unit"] [t], .lst [.str "refused", .str "gone"], t] : D),
  (.tup [.exc 27 ["unit"] [t], .lst [.str "refused", .str "gone"], t] : D),
  (.tup [.exc 29 ["name"] [t], .lst [.str "refused", .str "taken"], t] : D),
  (.tup [.exc 29 ["name"] [t], .lst [.str "refused", .str "taken"], t] : D),
  (.tup [.exc 30 ["unit"] [t], .lst [.str "answer", .str "no unit"], t] : D),
  (.tup [.exc 30 ["unit"] [t], .lst [.str "answer", .str "no unit"], t] : D),
  (.tup [.exc 31 ["name"] [t], .lst [.str "answer", .str "no name"], t] : D),
  (.tup [.exc 31 ["name"] [t], .lst [.str "answer", .str "no name"], t] : D)]
theorem parted_ok (t : D) (c : Option Con) : g__law_parted [.val t] [c] = .ok (.val (.lst (partL t))) [c] := by kernel_rfl
theorem valued_ok (t : D) (c : Option Con) : g__law_valued [.val t] [c] = .ok (.val (.lst (valL t))) [c] := by kernel_rfl
def menu : List D := [.non, .bl true, .int 0, .int (-5), .int (10 ^ 57), .str "", .str "word", .tup [.str "a", .int 1], .lst [.lst []], .dic [.str "c"] [.int 3], .str (Txt.mul "w" 30), .lst []]
/-- data whose text is short -/
structure Good (d : D) : Prop where
  ex : ∃ p : PyData, toPyF d = some p ∧ p.showable = true ∧ p.depth ≤ 5 ∧ p.shown.length ≤ 100
theorem good_int {i : Int} (h0 : 0 ≤ i) (h1 : i < 10 ^ 8) : Good (.int i) := by
  have h : i.natAbs < 10 ^ 8 := by omega
  refine ⟨.int i, by simp only [toPyF], ?_, by simp [PyData.depth], ?_⟩
  · simp only [PyData.showable]
    refine decide_eq_true ?_
    have h2 : i.natAbs < 2 ^ 30 := by omega
    have := PySem.Flt.log2_lt_of (by decide : 0 < 30) h2
    omega
  · simp only [PyData.shown]
    have := PySem.int_text_length_le10 (by decide : 0 < 8) h
    rw [PySem.ofString_length]
    omega
theorem good_menu : ∀ d ∈ menu, Good d := by
  intro d hd
  simp only [menu, List.mem_cons, List.not_mem_nil, or_false] at hd
  rcases hd with rfl | rfl | rfl | rfl | rfl | rfl | rfl | rfl | rfl | rfl | rfl | rfl <;> exact ⟨⟨_, by rfl, by decide +kernel, by decide +kernel, by decide +kernel⟩⟩
theorem value_ok {cs : List Int} {t r : Int} (ht0 : 0 ≤ t) (ht : t ≤ 900000) (hr : 0 ≤ r) : ∃ t' r' d, t ≤ t' ∧ t' ≤ t + 2 ∧ 0 ≤ r' ∧ Good d ∧ g__law_value [.loc 0] [some (penC cs t r)] = .ok (.val d) [some (penC cs t' r')] := by
  obtain ⟨t1, r1, v, h1, h2, h3, h4, e1⟩ := draw_ok dc_ok (S := [some (penC cs t r), none]) (p := 0) (cs := cs) (t := t) (r := r) (m := 100000000) rfl ht0 (by omega) hr (by decide) (by decide)
  have ht1 : t ≤ t1 ∧ t1 ≤ t + 1 := by omega
  obtain ⟨t2, r2, d, h5, h6, h7, e2⟩ := pick_ok dc_ok (S := [some (penC cs t1 r1), none]) (p := 0) (cs := cs) (t := t1) (r := r1) (ds := menu ++ [.int v]) rfl (by omega) (by omega) h2 (by simp) (by simp [menu])
  refine ⟨t2, r2, d, by omega, by omega, h6, ?_, ?_⟩
  · rcases List.mem_append.mp h7 with h | h
    · exact good_menu d h
    · rw [List.mem_singleton.mp h]
      exact good_int h3 (by omega)
  · have est : startE 2 [.loc 0] = [some (.loc 0), none] := rfl
    have em : (eApp hLst (eCons (eC .non) (eCons (eC (.bl true)) (eCons (eC (.int 0)) (eCons (eUn hNeg (eC (.int 5))) (eCons (eOp hPow (eC (.int 10)) (eC (.int 57))) (eCons (eC (.str "")) (eCons (eC (.str "word")) (eCons (eApp hTup (eCons (eC (.str "a")) (eCons (eC (.int 1)) (eNil)))) (eCons (eApp hLst (eCons (eApp hLst (eNil)) (eNil))) (eCons (eFrz (eDisp ((eC (.str "c"), eC (.int 3)) :: []))) (eCons (eOp hMulA (eC (.str "w")) (eC (.int 30))) (eCons (eApp hLst (eNil)) (eNil)))))))))))))) [some (.loc 0), none] [some (penC cs t r)] = .ok (.val (.lst menu)) [some (penC cs t r), none] := by kernel_rfl
    have ep : ∀ S1, hPow (.val (.int 10)) (.val (.int 8)) S1 = .ok (.val (.int 100000000)) S1 := fun _ => rfl
    have ea : ∀ S1, hAdd (.val (.lst menu)) (.val (.lst [.int v])) S1 = .ok (.val (.lst (menu ++ [.int v]))) S1 := fun _ => rfl
    have el : ∀ S1, hLst [.val (.int v)] S1 = .ok (.val (.lst [.int v])) S1 := fun _ => rfl
    have c1 : ∀ (x : A) S1, callG 2 g__law_draw [] [.loc 0, x] S1 = defF 7 (drawE dc) [.loc 0, x] S1 := fun _ _ => rfl
    have c2 : ∀ (x : A) S1, callG 2 g__law_pick [] [.loc 0, x] S1 = defF 2 (pickE (defF 7 (drawE dc))) [.loc 0, x] S1 := fun _ _ => rfl
    show defF 2 e__law_value [.loc 0] [some (penC cs t r)] = _
    rw [z_def, est]
    unfold e__law_value
    rw [z_seq, z_set, em]
    simp only [z_bind_ok, z_bindS_ok, z_C, z_var, z_kVar, z_op, z_kOp, z_un, z_nil, z_cons, z_kCons, z_kCons2, z_app, z_bool, z_kBool, z_and, z_kAnd_t, z_kAnd_f, z_or, z_kOr_t, z_kOr_f, z_not, z_kNot, z_andE, z_kAndE_t, z_kAndE_f, z_orE, z_kOrE_t, z_kOrE_f, z_ifE, z_kIfE_t, z_kIfE_f, z_frz, z_frz_v, z_seq, z_seq_nx, z_seq_rt, z_seq_bk, z_seq_ct, z_drop, z_kDrop, z_ret, z_kRet, z_retN, z_set, z_kSet, z_if, z_kIf_t, z_kIf_f, z_par, z_kPar, z_asg, z_kAsg, z_kAsg2, z_next, z_break, z_cont, z_gSet, z_for_nil, z_for_cons, z_kFor, z_kFor_nx, z_kFor_ct, z_kFor_bk, z_kFor_rt, z_forI, z_kForI, List.getElem?_cons_zero, List.getElem?_cons_succ, List.set_cons_zero, List.set_cons_succ, c1, c2, ep, e1, el, ea, e2, z_kDef_v]
    rfl
theorem kinds_torn (x : Option Con) : g__law_kinds [.val (.exc 28 [] [])] [x] = .ok (.val (.lst [.str "refused", .str "torn"])) [x] := by kernel_rfl
theorem kinds_deed (x : Option Con) : g__law_kinds [.val (.exc 32 [] [])] [x] = .ok (.val (.lst [.str "answer", .str "no deed"])) [x] := by kernel_rfl
theorem kinds_0 (x : Option Con) : g__law_kinds [.val (.exc 0 [] [])] [x] = .ok (.val (.lst [])) [x] := by kernel_rfl
theorem kinds_1 (x : Option Con) : g__law_kinds [.val (.exc 1 [] [])] [x] = .ok (.val (.lst [.str "input"])) [x] := by kernel_rfl
theorem kinds_2 (x : Option Con) : g__law_kinds [.val (.exc 2 [] [])] [x] = .ok (.val (.lst [.str "refused"])) [x] := by kernel_rfl
theorem kinds_3 (x : Option Con) : g__law_kinds [.val (.exc 3 [] [])] [x] = .ok (.val (.lst [.str "answer"])) [x] := by kernel_rfl
theorem kinds_text (x y : Option Con) (vs : List D) : g__law_kinds [.val (.exc 23 ["line", "word"] vs)] [x, y] = .ok (.val (.lst [.str "input", .str "text"])) [x, y] := by kernel_rfl
theorem kinds_many (x y : Option Con) (vs : List D) : g__law_kinds [.val (.exc 25 ["what", "most"] vs)] [x, y] = .ok (.val (.lst [.str "refused", .str "too many"])) [x, y] := by kernel_rfl
/-- what is asked of one made exception -/
def Ent (t d : D) : Prop := ∃ c ns vs signs, d = .tup [.exc c ns vs, .lst signs, t] ∧ ∀ x : Option Con, g__law_kinds [.val (.exc c ns vs)] [x] = .ok (.val (.lst signs)) [x] ∧ hNe (.val (.lst signs)) (.val (.lst signs)) [x] = .ok (.val (.bl false)) [x]
theorem ent_all (t : D) : ∀ d ∈ partL t ++ valL t, Ent t d := by
  intro d hd
  simp only [partL, valL, List.cons_append, List.nil_append, List.mem_cons, List.not_mem_nil, or_false] at hd
  rcases hd with rfl | rfl | rfl | rfl | rfl | rfl | rfl | rfl | rfl | rfl | rfl | rfl | rfl | rfl | rfl | rfl | rfl | rfl | rfl | rfl | rfl | rfl | rfl | rfl | rfl | rfl | rfl | rfl | rfl | rfl | rfl | rfl | rfl | rfl | rfl | rfl | rfl | rfl | rfl | rfl | rfl | rfl | rfl | rfl | rfl | rfl | rfl | rfl | rfl | rfl <;> exact ⟨_, _, _, _, rfl, fun x => ⟨by kernel_rfl, by kernel_rfl⟩⟩
end Lw


namespace Lw
open PySem L2 R
theorem repr_one {t : D} (g : Good t) : ∃ x, ∀ S, hRepr [.val t] S = .ok (.val (.str x)) S := by
  obtain ⟨p, h1, h2, h3, h4⟩ := g.ex
  refine ⟨p.shown, fun S => ?_⟩
  have hb : showB p = true := by
    unfold showB
    rw [h2, decide_eq_true (by omega), decide_eq_true (by omega)]
    rfl
  unfold hRepr
  simp only [h1, hb, if_true]
theorem repr_two {t m : D} (g : Good t) (k : Good m) : ∃ x, ∀ S, hRepr [.val (.lst [t, m])] S = .ok (.val (.str x)) S := by
  obtain ⟨p, h1, h2, h3, h4⟩ := g.ex
  obtain ⟨q, k1, k2, k3, k4⟩ := k.ex
  refine ⟨(PyData.list [p, q]).shown, fun S => ?_⟩
  have ht : toPyF (.lst [t, m]) = some (.list [p, q]) := by
    simp only [toPyF, toPyFs, h1, k1, Option.map_some]
  have hl : (PyData.list [p, q]).shown.length ≤ 100000 := by
    simp only [PyData.shown, PyData.shownAll, listText, textFrom, Str.length_append]
    have e1 : (Str.ofString "[").length = 1 := by decide +kernel
    have e2 : (Str.ofString "]").length = 1 := by decide +kernel
    have e3 : (Str.ofString ", ").length = 2 := by decide +kernel
    have e4 : (Str.ofString "").length = 0 := by decide +kernel
    simp [e1, e2, e3, e4]
    omega
  have hb : showB (.list [p, q]) = true := by
    unfold showB
    have e1 : (PyData.list [p, q]).showable = true := by simp only [PyData.showable, PyData.showableAll, h2, k2, Bool.and_self]
    have e2 : (PyData.list [p, q]).depth ≤ 60 := by
      simp only [PyData.depth, PyData.depthAll]
      omega
    rw [e1, decide_eq_true e2, decide_eq_true hl]
    rfl
  unfold hRepr
  simp only [ht, hb, if_true]
theorem eq_str {x : Str} {S : Store} : hEq (.val (.str x)) (.val (.str x)) S = .ok (.val (.bl true)) S := by
  unfold hEq eqA eqS
  simp
theorem ne_str {x : Str} {S : Store} : hNe (.val (.str x)) (.val (.str x)) S = .ok (.val (.bl false)) S := by
  unfold hNe eqA eqS
  simp
theorem ap {c : Option Con} {env : R.Env} {acc : List D} {d : D} {fe : Ev A} (h2 : fe env [c, some (.lst acc)] = .ok (.val d) [c, some (.lst acc)]) (h1 : env[2]? = some (some (.loc 1))) (h : acc.length < 1000) :
    eAppend (eVar 2) fe env [c, some (.lst acc)] = .ok (.val .non) [c, some (.lst (acc ++ [d]))] :=
  append_ok (n := 1) (by rw [z_var, h1]; rfl) h2 rfl (by omega)
theorem pairs_ok {t m : D} (g : Good t) (k : Good m) (c : Option Con) : g__law_pairs_right [.val t, .val m] [c] = .ok (.val (.bl true)) [c] := by
  obtain ⟨x, hx⟩ := repr_two g k
  have b1 : ∀ (acc : List D) (e4 : Option A), acc.length < 100 → (sSeq (sDrop (eAppend (eVar 2) (eOp hEq (eApp (callG 1 g__law_kinds []) (eCons (eVar 3) (eNil))) (eApp hLst (eCons (eC (.str "input")) (eCons (eC (.str "text")) (eNil)))))))
      (sDrop (eAppend (eVar 2) (eOp hEq (eApp hRepr (eCons (eApp hLst (eCons (eUn (hAttr ct "line") (eVar 3)) (eCons (eUn (hAttr ct "word") (eVar 3)) (eNil)))) (eNil))) (eApp hRepr (eCons (eApp hLst (eCons (eVar 0) (eCons (eVar 1) (eNil)))) (eNil)))))))
      [some (.val t), some (.val m), some (.loc 1), some (.val (.exc 23 ["line", "word"] [t, m])), e4] [c, some (.lst acc)] = .ok (.nx [some (.val t), some (.val m), some (.loc 1), some (.val (.exc 23 ["line", "word"] [t, m])), e4]) [c, some (.lst (acc ++ [.bl true] ++ [.bl true]))] := fun acc e4 ha => by
    have e1 : ∀ S1, hLst [.val (.str "input"), .val (.str "text")] S1 = .ok (.val (.lst [.str "input", .str "text"])) S1 := fun _ => rfl
    have e2 : ∀ S1, hEq (.val (.lst [.str "input", .str "text"])) (.val (.lst [.str "input", .str "text"])) S1 = .ok (.val (.bl true)) S1 := fun _ => by kernel_rfl
    have e3 : ∀ S1, hAttr ct "line" (.val (.exc 23 ["line", "word"] [t, m])) S1 = .ok (.val t) S1 := fun _ => by kernel_rfl
    have e5 : ∀ S1, hAttr ct "word" (.val (.exc 23 ["line", "word"] [t, m])) S1 = .ok (.val m) S1 := fun _ => by kernel_rfl
    have e6 : ∀ S1, hLst [.val t, .val m] S1 = .ok (.val (.lst [t, m])) S1 := fun _ => rfl
    have c1 : ∀ (y : A) S1, callG 1 g__law_kinds [] [y] S1 = g__law_kinds [y] S1 := fun _ _ => rfl
    rw [z_seq, z_drop, ap (d := .bl true) (by simp only [z_bind_ok, z_bindS_ok, z_C, z_var, z_kVar, z_op, z_kOp, z_un, z_nil, z_cons, z_kCons, z_kCons2, z_app, z_bool, z_kBool, z_and, z_kAnd_t, z_kAnd_f, z_or, z_kOr_t, z_kOr_f, z_not, z_kNot, z_andE, z_kAndE_t, z_kAndE_f, z_orE, z_kOrE_t, z_kOrE_f, z_ifE, z_kIfE_t, z_kIfE_f, z_frz, z_frz_v, z_seq, z_seq_nx, z_seq_rt, z_seq_bk, z_seq_ct, z_drop, z_kDrop, z_ret, z_kRet, z_retN, z_set, z_kSet, z_if, z_kIf_t, z_kIf_f, z_par, z_kPar, z_asg, z_kAsg, z_kAsg2, z_next, z_break, z_cont, z_gSet, z_for_nil, z_for_cons, z_kFor, z_kFor_nx, z_kFor_ct, z_kFor_bk, z_kFor_rt, z_forI, z_kForI, List.getElem?_cons_zero, List.getElem?_cons_succ, List.set_cons_zero, List.set_cons_succ, c1, kinds_text, e1, e2]) rfl (by omega)]
    rw [z_bindS_ok, z_kDrop, z_seq_nx, z_drop, ap (d := .bl true) (by simp only [z_bind_ok, z_bindS_ok, z_C, z_var, z_kVar, z_op, z_kOp, z_un, z_nil, z_cons, z_kCons, z_kCons2, z_app, z_bool, z_kBool, z_and, z_kAnd_t, z_kAnd_f, z_or, z_kOr_t, z_kOr_f, z_not, z_kNot, z_andE, z_kAndE_t, z_kAndE_f, z_orE, z_kOrE_t, z_kOrE_f, z_ifE, z_kIfE_t, z_kIfE_f, z_frz, z_frz_v, z_seq, z_seq_nx, z_seq_rt, z_seq_bk, z_seq_ct, z_drop, z_kDrop, z_ret, z_kRet, z_retN, z_set, z_kSet, z_if, z_kIf_t, z_kIf_f, z_par, z_kPar, z_asg, z_kAsg, z_kAsg2, z_next, z_break, z_cont, z_gSet, z_for_nil, z_for_cons, z_kFor, z_kFor_nx, z_kFor_ct, z_kFor_bk, z_kFor_rt, z_forI, z_kForI, List.getElem?_cons_zero, List.getElem?_cons_succ, List.set_cons_zero, List.set_cons_succ, e3, e5, e6, hx, eq_str]) rfl (by simp; omega)]
    rfl
  have b2 : ∀ (acc : List D) (e3 : Option A), acc.length < 100 → (sSeq (sDrop (eAppend (eVar 2) (eOp hEq (eApp (callG 1 g__law_kinds []) (eCons (eVar 4) (eNil))) (eApp hLst (eCons (eC (.str "refused")) (eCons (eC (.str "too many")) (eNil)))))))
      (sDrop (eAppend (eVar 2) (eOp hEq (eApp hRepr (eCons (eApp hLst (eCons (eUn (hAttr ct "what") (eVar 4)) (eCons (eUn (hAttr ct "most") (eVar 4)) (eNil)))) (eNil))) (eApp hRepr (eCons (eApp hLst (eCons (eVar 0) (eCons (eVar 1) (eNil)))) (eNil)))))))
      [some (.val t), some (.val m), some (.loc 1), e3, some (.val (.exc 25 ["what", "most"] [t, m]))] [c, some (.lst acc)] = .ok (.nx [some (.val t), some (.val m), some (.loc 1), e3, some (.val (.exc 25 ["what", "most"] [t, m]))]) [c, some (.lst (acc ++ [.bl true] ++ [.bl true]))] := fun acc e3' ha => by
    have e1 : ∀ S1, hLst [.val (.str "refused"), .val (.str "too many")] S1 = .ok (.val (.lst [.str "refused", .str "too many"])) S1 := fun _ => rfl
    have e2 : ∀ S1, hEq (.val (.lst [.str "refused", .str "too many"])) (.val (.lst [.str "refused", .str "too many"])) S1 = .ok (.val (.bl true)) S1 := fun _ => by kernel_rfl
    have e3 : ∀ S1, hAttr ct "what" (.val (.exc 25 ["what", "most"] [t, m])) S1 = .ok (.val t) S1 := fun _ => by kernel_rfl
    have e5 : ∀ S1, hAttr ct "most" (.val (.exc 25 ["what", "most"] [t, m])) S1 = .ok (.val m) S1 := fun _ => by kernel_rfl
    have e6 : ∀ S1, hLst [.val t, .val m] S1 = .ok (.val (.lst [t, m])) S1 := fun _ => rfl
    have c1 : ∀ (y : A) S1, callG 1 g__law_kinds [] [y] S1 = g__law_kinds [y] S1 := fun _ _ => rfl
    rw [z_seq, z_drop, ap (d := .bl true) (by simp only [z_bind_ok, z_bindS_ok, z_C, z_var, z_kVar, z_op, z_kOp, z_un, z_nil, z_cons, z_kCons, z_kCons2, z_app, z_bool, z_kBool, z_and, z_kAnd_t, z_kAnd_f, z_or, z_kOr_t, z_kOr_f, z_not, z_kNot, z_andE, z_kAndE_t, z_kAndE_f, z_orE, z_kOrE_t, z_kOrE_f, z_ifE, z_kIfE_t, z_kIfE_f, z_frz, z_frz_v, z_seq, z_seq_nx, z_seq_rt, z_seq_bk, z_seq_ct, z_drop, z_kDrop, z_ret, z_kRet, z_retN, z_set, z_kSet, z_if, z_kIf_t, z_kIf_f, z_par, z_kPar, z_asg, z_kAsg, z_kAsg2, z_next, z_break, z_cont, z_gSet, z_for_nil, z_for_cons, z_kFor, z_kFor_nx, z_kFor_ct, z_kFor_bk, z_kFor_rt, z_forI, z_kForI, List.getElem?_cons_zero, List.getElem?_cons_succ, List.set_cons_zero, List.set_cons_succ, c1, kinds_many, e1, e2]) rfl (by omega)]
    rw [z_bindS_ok, z_kDrop, z_seq_nx, z_drop, ap (d := .bl true) (by simp only [z_bind_ok, z_bindS_ok, z_C, z_var, z_kVar, z_op, z_kOp, z_un, z_nil, z_cons, z_kCons, z_kCons2, z_app, z_bool, z_kBool, z_and, z_kAnd_t, z_kAnd_f, z_or, z_kOr_t, z_kOr_f, z_not, z_kNot, z_andE, z_kAndE_t, z_kAndE_f, z_orE, z_kOrE_t, z_kOrE_f, z_ifE, z_kIfE_t, z_kIfE_f, z_frz, z_frz_v, z_seq, z_seq_nx, z_seq_rt, z_seq_bk, z_seq_ct, z_drop, z_kDrop, z_ret, z_kRet, z_retN, z_set, z_kSet, z_if, z_kIf_t, z_kIf_f, z_par, z_kPar, z_asg, z_kAsg, z_kAsg2, z_next, z_break, z_cont, z_gSet, z_for_nil, z_for_cons, z_kFor, z_kFor_nx, z_kFor_ct, z_kFor_bk, z_kFor_rt, z_forI, z_kForI, List.getElem?_cons_zero, List.getElem?_cons_succ, List.set_cons_zero, List.set_cons_succ, e3, e5, e6, hx, eq_str]) rfl (by simp; omega)]
    rfl
  have est : startE 5 [.val t, .val m] = [some (.val t), some (.val m), none, none, none] := rfl
  have n0 : eApp hLstN eNil [some (.val t), some (.val m), none, none, none] [c] = .ok (.loc 1) [c, some (.lst [])] := rfl
  have i1 : ∀ e3 e4 S1, iSeq (eApp hLst (eCons (eApp (hMkX 23 ["line", "word"]) (eCons (eVar 0) (eCons (eVar 1) (eNil)))) (eCons (eApp (hMkK 23 ["line", "word"] 2 [1, 0]) (eCons (eVar 1) (eCons (eVar 0) (eNil)))) (eNil)))) [some (.val t), some (.val m), some (.loc 1), e3, e4] S1
      = .ok [.exc 23 ["line", "word"] [t, m], .exc 23 ["line", "word"] [t, m]] S1 := fun _ _ _ => by kernel_rfl
  have i2 : ∀ e3 e4 S1, iSeq (eApp hLst (eCons (eApp (hMkX 25 ["what", "most"]) (eCons (eVar 0) (eCons (eVar 1) (eNil)))) (eCons (eApp (hMkK 25 ["what", "most"] 2 [1, 0]) (eCons (eVar 1) (eCons (eVar 0) (eNil)))) (eNil)))) [some (.val t), some (.val m), some (.loc 1), e3, e4] S1
      = .ok [.exc 25 ["what", "most"] [t, m], .exc 25 ["what", "most"] [t, m]] S1 := fun _ _ _ => by kernel_rfl
  show defF 5 e__law_pairs_right _ _ = _
  rw [z_def, est]
  unfold e__law_pairs_right
  rw [z_seq, z_set, n0, z_bindS_ok, z_kSet, z_seq_nx]
  simp only [List.set_cons_zero, List.set_cons_succ]
  rw [z_seq, z_forI, i1, z_bindS_ok, z_kForI, for_step rfl (b1 [] none (by simp)), for_step rfl (b1 _ none (by simp)), z_for_nil, z_seq_nx, z_seq, z_forI, i2, z_bindS_ok, z_kForI, for_step rfl (b2 _ _ (by simp)), for_step rfl (b2 _ _ (by simp)), z_for_nil, z_seq_nx]
  rfl
end Lw


namespace Lw
open PySem L2 R
def bodyI : Sv := sIf (tOrE (tBool (eOp hNe (eApp hRepr (eCons (eVar 7) (eNil))) (eApp hRepr (eCons (eVar 3) (eNil))))) (tBool (eOp hNe (eApp (callG 1 g__law_kinds []) (eCons (eVar 5) (eNil))) (eVar 6)))) (sRet (eC (.bl false))) (sNext)
def bodyT : Sv := sSeq (sPar 3 4 (eCons (eApp (callG 1 g__law_value []) (eCons (eVar 1) (eNil))) (eCons (eApp (callG 1 g__law_value []) (eCons (eVar 1) (eNil))) (eNil))))
    (sSeq (sFor (iSeq (eOp hAdd (eApp (callG 1 g__law_parted []) (eCons (eVar 3) (eNil))) (eApp (callG 1 g__law_valued []) (eCons (eVar 3) (eNil))))) (gTupE 3 (gMore (gSet 5) (gMore (gSet 6) (gMore (gSet 7) (gNone))))) bodyI)
    (sIf (tNotE (tBool (eApp (callG 2 g__law_pairs_right []) (eCons (eVar 3) (eCons (eVar 4) (eNil)))))) (sRet (eC (.bl false))) (sNext)))
def endL : Sv := (sSeq (sIf (tOrE (tBool (eOp hNe (eApp (callG 1 g__law_kinds []) (eCons (eC (.exc 28 [] [])) (eNil))) (eApp hLst (eCons (eC (.str "refused")) (eCons (eC (.str "torn")) (eNil)))))) (tBool (eOp hNe (eApp (callG 1 g__law_kinds []) (eCons (eC (.exc 32 [] [])) (eNil))) (eApp hLst (eCons (eC (.str "answer")) (eCons (eC (.str "no deed")) (eNil))))))) (sRet (eC (.bl false)))
    (sNext))
    (sSeq (sSet 8 (eApp hLst (eCons (eApp (callG 1 g__law_kinds []) (eCons (eC (.exc 0 [] [])) (eNil))) (eCons (eApp (callG 1 g__law_kinds []) (eCons (eC (.exc 1 [] [])) (eNil))) (eCons (eApp (callG 1 g__law_kinds []) (eCons (eC (.exc 2 [] [])) (eNil))) (eCons (eApp (callG 1 g__law_kinds []) (eCons (eC (.exc 3 [] [])) (eNil))) (eNil)))))))
    (sRet (eAndE (eOp hEq (eVar 8) (eApp hLst (eCons (eApp hLst (eNil)) (eCons (eApp hLst (eCons (eC (.str "input")) (eNil))) (eCons (eApp hLst (eCons (eC (.str "refused")) (eNil))) (eCons (eApp hLst (eCons (eC (.str "answer")) (eNil))) (eNil))))))) (eApp (hIsI ct) (eCons (eC (.exc 0 [] [])) (eCons (eC (.ty "ValueError")) (eNil))))))))
theorem law_split : e_law = sSeq (sSet 1 (eApp (callG 1 g__law_pen []) (eCons (eVar 0) (eNil)))) (sSeq (sFor (iRange1 (eCons (eC (.int 4)) (eNil))) (gSet 2) bodyT) endL) := rfl
theorem end_ok (x0 x1 x2 x3 x4 x5 x6 x7 : Option A) (c : Option Con) : endL [x0, x1, x2, x3, x4, x5, x6, x7, none] [c] = .ok (.rt (.val (.bl true))) [c] := by kernel_rfl
theorem inner_ok {t m : D} (g : Good t) (x0 x1 x2 x4 x5 x6 x7 : Option A) (c : Option Con) : ∃ y5 y6 y7, forD (gTupE 3 (gMore (gSet 5) (gMore (gSet 6) (gMore (gSet 7) (gNone))))) bodyI (partL t ++ valL t) [x0, x1, x2, some (.val t), x4, x5, x6, x7, none] [c]
    = .ok (.nx [x0, x1, x2, some (.val t), x4, y5, y6, y7, none]) [c] := by
  obtain ⟨x, hx⟩ := repr_one g
  obtain ⟨env', S', ⟨⟨y5, y6, y7, rfl⟩, rfl⟩, e⟩ := for_inv (k := 0) (t := gTupE 3 (gMore (gSet 5) (gMore (gSet 6) (gMore (gSet 7) (gNone))))) (s := bodyI) (ds := partL t ++ valL t) (env := [x0, x1, x2, some (.val t), x4, x5, x6, x7, none]) (S := [c])
    (I := fun _ env S => (∃ y5 y6 y7, env = [x0, x1, x2, some (.val t), x4, y5, y6, y7, none]) ∧ S = [c]) (fun j d env S hj hI => by
      obtain ⟨⟨y5, y6, y7, rfl⟩, rfl⟩ := hI
      obtain ⟨k, ns, vs, signs, rfl, hk⟩ := ent_all t d (List.mem_of_getElem? hj)
      refine ⟨_, _, [x0, x1, x2, some (.val t), x4, some (.val (.exc k ns vs)), some (.val (.lst signs)), some (.val t), none], [c], rfl, ?_, ⟨_, _, _, rfl⟩, rfl⟩
      have c1 : ∀ (y : A) S1, callG 1 g__law_kinds [] [y] S1 = g__law_kinds [y] S1 := fun _ _ => rfl
      show bodyI [x0, x1, x2, some (.val t), x4, some (.val (.exc k ns vs)), some (.val (.lst signs)), some (.val t), none] [c] = _
      unfold bodyI
      simp only [z_bind_ok, z_bindS_ok, z_C, z_var, z_kVar, z_op, z_kOp, z_un, z_nil, z_cons, z_kCons, z_kCons2, z_app, z_bool, z_kBool, z_and, z_kAnd_t, z_kAnd_f, z_or, z_kOr_t, z_kOr_f, z_not, z_kNot, z_andE, z_kAndE_t, z_kAndE_f, z_orE, z_kOrE_t, z_kOrE_f, z_ifE, z_kIfE_t, z_kIfE_f, z_frz, z_frz_v, z_seq, z_seq_nx, z_seq_rt, z_seq_bk, z_seq_ct, z_drop, z_kDrop, z_ret, z_kRet, z_retN, z_set, z_kSet, z_if, z_kIf_t, z_kIf_f, z_par, z_kPar, z_asg, z_kAsg, z_kAsg2, z_next, z_break, z_cont, z_gSet, z_for_nil, z_for_cons, z_kFor, z_kFor_nx, z_kFor_ct, z_kFor_bk, z_kFor_rt, z_forI, z_kForI, List.getElem?_cons_zero, List.getElem?_cons_succ, List.set_cons_zero, List.set_cons_succ, hx, ne_str, c1, (hk c).1, (hk c).2]) ⟨⟨x5, x6, x7, rfl⟩, rfl⟩
  exact ⟨y5, y6, y7, e⟩
theorem turn_ok {cs : List Int} {t r : Int} (ht0 : 0 ≤ t) (ht : t ≤ 800000) (hr : 0 ≤ r) (x0 x2 x3 x4 x5 x6 x7 : Option A) : ∃ t' r' y3 y4 y5 y6 y7, 0 ≤ t' ∧ t' ≤ t + 4 ∧ 0 ≤ r' ∧
    bodyT [x0, some (.loc 0), x2, x3, x4, x5, x6, x7, none] [some (penC cs t r)] = .ok (.nx [x0, some (.loc 0), x2, y3, y4, y5, y6, y7, none]) [some (penC cs t' r')] := by
  obtain ⟨t1, r1, d1, a1, a2, a3, g1, e1⟩ := value_ok (cs := cs) ht0 (by omega) hr
  obtain ⟨t2, r2, d2, b1, b2, b3, g2, e2⟩ := value_ok (cs := cs) (t := t1) (r := r1) (by omega) (by omega) a3
  obtain ⟨y5, y6, y7, e3⟩ := inner_ok (m := d2) g1 x0 (some (.loc 0)) x2 (some (.val d2)) x5 x6 x7 (some (penC cs t2 r2))
  refine ⟨t2, r2, some (.val d1), some (.val d2), y5, y6, y7, by omega, by omega, b3, ?_⟩
  have c1 : ∀ (y : A) S1, callG 1 g__law_value [] [y] S1 = g__law_value [y] S1 := fun _ _ => rfl
  have i1 : iSeq (eOp hAdd (eApp (callG 1 g__law_parted []) (eCons (eVar 3) (eNil))) (eApp (callG 1 g__law_valued []) (eCons (eVar 3) (eNil)))) [x0, some (.loc 0), x2, some (.val d1), some (.val d2), x5, x6, x7, none] [some (penC cs t2 r2)] = .ok (partL d1 ++ valL d1) [some (penC cs t2 r2)] := by
    have p1 : ∀ (y : A) S1, callG 1 g__law_parted [] [y] S1 = g__law_parted [y] S1 := fun _ _ => rfl
    have p2 : ∀ (y : A) S1, callG 1 g__law_valued [] [y] S1 = g__law_valued [y] S1 := fun _ _ => rfl
    have p3 : ∀ S1, hAdd (.val (.lst (partL d1))) (.val (.lst (valL d1))) S1 = .ok (.val (.lst (partL d1 ++ valL d1))) S1 := fun _ => rfl
    unfold iSeq
    simp only [z_bind_ok, z_bindS_ok, z_C, z_var, z_kVar, z_op, z_kOp, z_un, z_nil, z_cons, z_kCons, z_kCons2, z_app, z_bool, z_kBool, z_and, z_kAnd_t, z_kAnd_f, z_or, z_kOr_t, z_kOr_f, z_not, z_kNot, z_andE, z_kAndE_t, z_kAndE_f, z_orE, z_kOrE_t, z_kOrE_f, z_ifE, z_kIfE_t, z_kIfE_f, z_frz, z_frz_v, z_seq, z_seq_nx, z_seq_rt, z_seq_bk, z_seq_ct, z_drop, z_kDrop, z_ret, z_kRet, z_retN, z_set, z_kSet, z_if, z_kIf_t, z_kIf_f, z_par, z_kPar, z_asg, z_kAsg, z_kAsg2, z_next, z_break, z_cont, z_gSet, z_for_nil, z_for_cons, z_kFor, z_kFor_nx, z_kFor_ct, z_kFor_bk, z_kFor_rt, z_forI, z_kForI, List.getElem?_cons_zero, List.getElem?_cons_succ, List.set_cons_zero, List.set_cons_succ, p1, p2, parted_ok, valued_ok, p3]
    rfl
  have c2 : ∀ (y z : A) S1, callG 2 g__law_pairs_right [] [y, z] S1 = g__law_pairs_right [y, z] S1 := fun _ _ _ => rfl
  unfold bodyT
  simp only [z_bind_ok, z_bindS_ok, z_C, z_var, z_kVar, z_op, z_kOp, z_un, z_nil, z_cons, z_kCons, z_kCons2, z_app, z_bool, z_kBool, z_and, z_kAnd_t, z_kAnd_f, z_or, z_kOr_t, z_kOr_f, z_not, z_kNot, z_andE, z_kAndE_t, z_kAndE_f, z_orE, z_kOrE_t, z_kOrE_f, z_ifE, z_kIfE_t, z_kIfE_f, z_frz, z_frz_v, z_seq, z_seq_nx, z_seq_rt, z_seq_bk, z_seq_ct, z_drop, z_kDrop, z_ret, z_kRet, z_retN, z_set, z_kSet, z_if, z_kIf_t, z_kIf_f, z_par, z_kPar, z_asg, z_kAsg, z_kAsg2, z_next, z_break, z_cont, z_gSet, z_for_nil, z_for_cons, z_kFor, z_kFor_nx, z_kFor_ct, z_kFor_bk, z_kFor_rt, z_forI, z_kForI, List.getElem?_cons_zero, List.getElem?_cons_succ, List.set_cons_zero, List.set_cons_succ, c1, e1, e2]
  rw [i1, z_bindS_ok, z_kForI, e3]
  simp only [z_bind_ok, z_bindS_ok, z_C, z_var, z_kVar, z_op, z_kOp, z_un, z_nil, z_cons, z_kCons, z_kCons2, z_app, z_bool, z_kBool, z_and, z_kAnd_t, z_kAnd_f, z_or, z_kOr_t, z_kOr_f, z_not, z_kNot, z_andE, z_kAndE_t, z_kAndE_f, z_orE, z_kOrE_t, z_kOrE_f, z_ifE, z_kIfE_t, z_kIfE_f, z_frz, z_frz_v, z_seq, z_seq_nx, z_seq_rt, z_seq_bk, z_seq_ct, z_drop, z_kDrop, z_ret, z_kRet, z_retN, z_set, z_kSet, z_if, z_kIf_t, z_kIf_f, z_par, z_kPar, z_asg, z_kAsg, z_kAsg2, z_next, z_break, z_cont, z_gSet, z_for_nil, z_for_cons, z_kFor, z_kFor_nx, z_kFor_ct, z_kFor_bk, z_kFor_rt, z_forI, z_kForI, List.getElem?_cons_zero, List.getElem?_cons_succ, List.set_cons_zero, List.set_cons_succ, c2, pairs_ok g1 g2, Bool.not_true]
theorem law_ok (ns : List Int) : ∃ S, g_law [.val (.scr ns)] [] = .ok (.val (.bl true)) S := by
  have est : startE 9 [.val (.scr ns)] = [some (.val (.scr ns)), none, none, none, none, none, none, none, none] := rfl
  have c0 : callG 1 g__law_pen [] [.val (.scr ns)] [] = .ok (.loc 0) [some (penC (ns.take 63) 0 0)] := pen_ok (S := []) ns
  have i0 : ∀ env S1, iRange1 (eCons (eC (.int 4)) (eNil)) env S1 = .ok (rangeD 0 4) S1 := fun _ _ => rfl
  obtain ⟨env', S', ⟨y2, y3, y4, y5, y6, y7, t, r, rfl, rfl, _, _, _⟩, e⟩ := for_inv (k := 0) (t := gSet 2) (s := bodyT) (ds := rangeD 0 4) (env := [some (.val (.scr ns)), some (.loc 0), none, none, none, none, none, none, none]) (S := [some (penC (ns.take 63) 0 0)])
    (I := fun k env S => ∃ y2 y3 y4 y5 y6 y7 t r, env = [some (.val (.scr ns)), some (.loc 0), y2, y3, y4, y5, y6, y7, none] ∧ S = [some (penC (ns.take 63) t r)] ∧ 0 ≤ t ∧ t ≤ 4 * (k : Int) ∧ 0 ≤ r) (fun j d env S hj hI => by
      obtain ⟨y2, y3, y4, y5, y6, y7, t, r, rfl, rfl, h1, h2, h3⟩ := hI
      have hj4 : j < 4 := by
        have := (List.getElem?_eq_some_iff.mp hj).1
        simpa [rangeD] using this
      obtain ⟨t', r', z3, z4, z5, z6, z7, k1, k2, k3, e⟩ := turn_ok (cs := ns.take 63) h1 (by omega) h3 (some (.val (.scr ns))) (some (.val d)) y3 y4 y5 y6 y7
      exact ⟨_, _, _, _, rfl, e, _, _, _, _, _, _, _, _, rfl, rfl, k1, by omega, k3⟩) ⟨_, _, _, _, _, _, 0, 0, rfl, rfl, by decide, by decide, by decide⟩
  refine ⟨[], ?_⟩
  show defF 9 e_law _ _ = _
  rw [z_def, est, law_split]
  simp only [z_bind_ok, z_bindS_ok, z_C, z_var, z_kVar, z_op, z_kOp, z_un, z_nil, z_cons, z_kCons, z_kCons2, z_app, z_bool, z_kBool, z_and, z_kAnd_t, z_kAnd_f, z_or, z_kOr_t, z_kOr_f, z_not, z_kNot, z_andE, z_kAndE_t, z_kAndE_f, z_orE, z_kOrE_t, z_kOrE_f, z_ifE, z_kIfE_t, z_kIfE_f, z_frz, z_frz_v, z_seq, z_seq_nx, z_seq_rt, z_seq_bk, z_seq_ct, z_drop, z_kDrop, z_ret, z_kRet, z_retN, z_set, z_kSet, z_if, z_kIf_t, z_kIf_f, z_par, z_kPar, z_asg, z_kAsg, z_kAsg2, z_next, z_break, z_cont, z_gSet, z_for_nil, z_for_cons, z_kFor, z_kFor_nx, z_kFor_ct, z_kFor_bk, z_kFor_rt, z_forI, z_kForI, List.getElem?_cons_zero, List.getElem?_cons_succ, List.set_cons_zero, List.set_cons_succ, c0]
  rw [i0, z_bindS_ok, z_kForI, e, z_seq_nx, end_ok]
  rfl
end Lw


namespace Lw
open PySem PySem.Spec PyProof.Rows L2 R
abbrev Rw : PySem.W.OpenRow := PySem.W.OpenLaw.row PySem.Challenge.rw_rowvault_k00_errors_and_their_fields
abbrev hk : PySem.W.Hook := hookR 6 fa fn ex
def loose : List PySem.Str := (["VaultError", "BadInput", "Refused", "NoAnswer", "BadShape", "BadTable", "BadPart", "BadQuestion", "BadSpan", "BadKind", "BadLayout", "BadRule", "BadPlan", "BadOrder", "BadVault", "BadBook", "BadPoly", "BadSites", "BadPlace", "BadAmount"] : List PySem.Str) ++ (["BadUnit", "BadCount", "BadName", "BadText", "BadLine", "TooMany", "Untold", "Gone", "Torn", "Taken", "NoUnit", "NoName", "NoDeed", "_law_pen", "_law_draw", "_law_pick", "_law_value", "_law_signs", "_law_kinds", "_law_parted"] : List PySem.Str) ++ (["_law_valued", "_law_pairs_right"] : List PySem.Str)
def ob (s : PySem.W.SharedT) : Bool × AlR := obsRG 6 fa fn ex (HandSHeadRun.getT s)
theorem ob_eq (s : PySem.W.SharedT) : ob s = hk.obs s.abs := obsRG_eq (HandSHeadRun.getT_eq s)
theorem run (w : World) : HandSHeadRun.RunEq Rw (PySem.W.view Rw.prog [44]) hk ob 12000 loose w := by
  intro os
  kernel_rfl
end Lw


open PySem PySem.W PySem.Calls PyProof.Rows in
theorem PySem.Challenge.cw_rowvault_k00_errors_and_their_fields_holds : PySem.Challenge.rw_rowvault_k00_errors_and_their_fields.Holds := by
  w_on; o_law
  refine HandSHeadRun.head_any (r := OpenLaw.row PySem.Challenge.rw_rowvault_k00_errors_and_their_fields) (q := view (OpenLaw.row PySem.Challenge.rw_rowvault_k00_errors_and_their_fields).prog [44]) (H := Lw.hk) (ob := Lw.ob) (M := 12000) (loose := Lw.loose) (d := HandSHeadRun.topDef (OpenLaw.row PySem.Challenge.rw_rowvault_k00_errors_and_their_fields).prog 44) (kwd := []) Lw.ob_eq
    (by kernel_rfl) (fun s => by kernel_rfl) Lw.run (by kernel_rfl) (by kernel_rfl) (by kernel_rfl) (by rfl) (by decide +kernel) (by decide +kernel) ⟨rfl, rfl, rfl, rfl, rfl, by decide +kernel⟩ ?hw ?hc
  case hw => w_witness2
  case hc =>
    refine R.walkG (l := PySem.Challenge.rw_rowvault_k00_errors_and_their_fields) (n := 63) (k := 4) (x := "_law_script") rfl (by decide) (by kernel_rfl) ⟨rfl, by decide, by decide⟩ ?F
    intro w mg fa h Y G hmg0
    obtain ⟨K, KX, c, hsm⟩ := Y
    have hmg : mg ("law" : PySem.Str) = some (.ref fa) := by
      have e : (HandSHeadRun.topDef (OpenLaw.row PySem.Challenge.rw_rowvault_k00_errors_and_their_fields).prog 44).name = ("law" : PySem.Str) := by kernel_rfl
      rw [← e]
      exact hmg0
    have T : Lw.TX K mg := ⟨⟨h, KX, G⟩, c⟩
    have ea := hmg.symm.trans (T.glo 50)
    cases ea
    obtain ⟨fd, FF⟩ := T.c.def_ 9
    have b := L2.FunD.bindsA (ps := ["_law_script"]) FF fun _ _ _ _ _ _ us hl => match us, hl with | [_], _ => rfl
    exact ⟨K, fd, R.SpF K (Lw.cls K) 1 Lw.g_law, KX, Lw.ex_sm T, hsm, fun s u => b s [u] rfl, fun H a ns _ hm hS => R.spF_law hm hS (Lw.law_ok ns), fun base _ _ => Lw.okG_law T FF⟩
