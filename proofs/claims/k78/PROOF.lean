import PyProof.Rows.All
import Wide.All
import OpenK.AllK
import Wide.FinOn
import KE.KExcIs
import KE.KStateDown
import HandS.ForMost
import HandS.ForExc
import HandS.CallSlots
import HandS.Defaults
import HandS.Wide
import HandS.ExcInit
import HandS.IsInst
import HandS.ExcValue
import HandS.ExcField
import HandS.Head0
import HandS.Head1
import HandS.Head2
import HandS.HeadEnd
import HandS.HeadHook1
import HandS.HeadHook2
import HandS.Ends
import HandS.More
import HandS.Words
import HandS.WordsExc
import HandS.Lambda
import HandS.EndTab
import HandS.Style
import HandS.Iter
import HandS.DictComp
import HandS.HeadHook4
import HandS.HeadNt
import HandS.Deep
import HandS.Star
import KE.KCallOwn
import KE.KFmtOwn
import PyProof.InstEq
import HandS.IterVal
import HandS.ClsMeth
import KE.GoesEnum
import HandS.NoneIn
import HandS.TupAny
import KE.KRevSl
import HandS.RaiseMore
import PyProof.NeKinds
import HandS.Text
import PySem.Challenge.RW_rowvault_k78_orders_made_and_told
set_option Elab.async false
set_option linter.all false
set_option maxRecDepth 100000
set_option maxHeartbeats 0
/-! R: a program's defs as plain Lean functions (evaluators), each shown sound over the hand layer. -/
namespace R
open PySem L2

/-- where the classes stand; the tables of code objects of the defs that make lambdas, with the lambdas' names -/
structure CL where
  cl : Nat → Addr
  tabs : List (Addr × Str)
  kn : Hp := fun _ => none
  ka : List Addr := []
  fvs : List Addr := []
/-- the same with things known, function values -/
abbrev CL.lam (c : CL) (kn : Hp) (ka fvs : List Addr) : CL := ⟨c.cl, c.tabs, kn, ka, fvs⟩
instance : CoeFun CL (fun _ => Nat → Addr) := ⟨CL.cl⟩
/-- a datum: a value with all that it reaches -/
inductive D where
  | non | bl (b : Bool) | int (i : Int) | str (x : Str)
  | tup (xs : List D) | lst (xs : List D) | dic (ks vs : List D)
  | obj (C : Nat) (ns : List Str) (vs : List D)
  | exc (C : Nat) (ns : List Str) (vs : List D)
  | scr (ns : List Int)
  | ty (n : String)
  | cls (c : Nat)
  deriving Inhabited

def keyD : Key → D
  | .inl i => .int i
  | .inr x => .str x

def Ex (H H' : Hp) : Prop := ∀ a o, H a = some o → H' a = some o
theorem Ex.refl (H : Hp) : Ex H H := fun _ _ h => h
theorem Ex.trans {H H1 H2 : Hp} (a : Ex H H1) (b : Ex H1 H2) : Ex H H2 := fun x o h => b x o (a x o h)
theorem Ex.new {H : Hp} {p : Addr} {o : HO} (h : H p = none) : Ex H (upd H p o) := fun a u e => by
  rw [upd_ne (ne_of_none e h)]
  exact e
theorem Ex.nn {H H' : Hp} {p : Addr} (e : Ex H H') (h : H' p = none) : H p = none := by
  cases h1 : H p with
  | none => rfl
  | some o =>
    rw [e p o h1] at h
    cases h
theorem Ex.both {H H' : Hp} {p : Addr} {o : HO} (e : Ex H H') (h : H p = none) : Ex (upd H p o) (upd H' p o) := fun a u q => by
  by_cases ha : a = p
  · subst ha
    rw [upd_same] at q ⊢
    exact q
  · rw [upd_ne ha] at q ⊢
    exact e a u q
theorem ex_rd {H H' : Hp} {a : Addr} {u : HO} (e : Ex H H') (h : Rd H a u) : Rd H' a u := by
  rcases h with h | ⟨o, h⟩
  · exact .inl (e a _ h)
  · exact .inr ⟨o, e a _ h⟩
theorem ex_l {K : PySem.W.Frag} {H H' : Hp} {a : Addr} {xs : List V} (e : Ex H H') (h : SqL K H a xs) : SqL K H' a xs := by
  rcases h with h | h
  · exact .inl (ex_rd e h)
  · exact .inr h
theorem ex_t {K : PySem.W.Frag} {H H' : Hp} {a : Addr} {xs : List V} (e : Ex H H') (h : SqT K H a xs) : SqT K H' a xs := by
  rcases h with h | h
  · exact .inl (ex_rd e h)
  · exact .inr h

/-- an exception's object, by what is true of it -/
def IsExc (φ : Heap → Prop) (a C : Addr) (d : Option Addr) : Prop := ∀ h, φ h → ∃ (oe : Obj) (vs : Array Value), h.get? a = some oe ∧ Zc (.ref C) d oe ∧ oe.data = .fields vs
/-- its own dict -/
def IsXd (o : HO) (dx : Addr) (fs : List (Str × V)) : Prop := o = .xd fs ∨ o = exd dx fs
def flds (fs : List (Str × V)) (ns : List Str) : List V := ns.map fun n => (fs.lookup n).getD .non
def HasF (fs : List (Str × V)) (ns : List Str) : Prop := ∀ n ∈ ns, ∃ v, fs.lookup n = some v

section
variable (K : PySem.W.Frag) (cl : CL)
mutual
inductive Rep (H : Hp) : V → D → Prop where
  | non : Rep H .non .non
  | bl {b : Bool} : Rep H (.bl b) (.bl b)
  | int {i : Int} : Rep H (.int i) (.int i)
  | str {x : Str} : Rep H (.str x) (.str x)
  | tup {a : Addr} {xs : List V} {ds : List D} : SqT K H a xs → Reps H xs ds → Rep H (.ref a) (.tup ds)
  | lst {a : Addr} {xs : List V} {ds : List D} : H a = some (.lst xs) → Reps H xs ds → Rep H (.ref a) (.lst ds)
  | scr {a : Addr} {ns : List Int} : SqL K H a (ns.map V.int) → Rep H (.ref a) (.scr ns)
  | dK {a : Addr} {o : Obj} {kvs : List (Key × V)} {ks vs : List D} : H a = some (.frz o (.dK kvs)) → ks = kvs.map (fun p => keyD p.1) → Reps H (kvs.map (·.2)) vs → Rep H (.ref a) (.dic ks vs)
  | dT {a : Addr} {o : Obj} {kvs : List (List Key × V)} {ks vs : List D} : H a = some (.frz o (.dT kvs)) → ks = kvs.map (fun p => .tup (p.1.map keyD)) → Reps H (kvs.map (·.2)) vs → Rep H (.ref a) (.dic ks vs)
  | obj {a dx : Addr} {C : Nat} {fs : List (Str × V)} {ns : List Str} {vs : List D} : H a = some (.ins (cl C) dx fs) → fs.map (·.1) = ns → Reps H (fs.map (·.2)) vs → Rep H (.ref a) (.obj C ns vs)
  | exc {a dx : Addr} {φ : Heap → Prop} {o : HO} {C : Nat} {fs : List (Str × V)} {ns : List Str} {vs : List D} : H a = some (.ext φ) → IsExc φ a (cl C) (some dx) → H dx = some o → IsXd o dx fs → HasF fs ns → Reps H (flds fs ns) vs → Rep H (.ref a) (.exc C ns vs)
  | exc0 {a : Addr} {φ : Heap → Prop} {C : Nat} : H a = some (.ext φ) → IsExc φ a (cl C) none → Rep H (.ref a) (.exc C [] [])
  | ty {n : String} : Rep H (.ty n) (.ty n)
  | cls {c : Nat} : Rep H (.ref (cl c)) (.cls c)
inductive Reps (H : Hp) : List V → List D → Prop where
  | nil : Reps H [] []
  | cons {v : V} {d : D} {vs : List V} {ds : List D} : Rep H v d → Reps H vs ds → Reps H (v :: vs) (d :: ds)
end
end

section
variable {K : PySem.W.Frag} {cl : CL} {H H' : Hp}
theorem Rep.mono (e : Ex H H') {v : V} {d : D} (h : Rep K cl H v d) : Rep K cl H' v d :=
  Rep.rec (motive_1 := fun v d _ => Rep K cl H' v d) (motive_2 := fun vs ds _ => Reps K cl H' vs ds) .non .bl .int .str (fun h _ r => .tup (ex_t e h) r) (fun h _ r => .lst (e _ _ h) r) (fun h => .scr (ex_l e h)) (fun h q _ r => .dK (e _ _ h) q r) (fun h q _ r => .dT (e _ _ h) q r)
    (fun h q _ r => .obj (e _ _ h) q r) (fun h i h2 x q _ r => .exc (e _ _ h) i (e _ _ h2) x q r) (fun h i => .exc0 (e _ _ h) i) .ty .cls .nil (fun _ _ a b => .cons a b) h
theorem Reps.mono (e : Ex H H') : ∀ {vs : List V} {ds : List D}, Reps K cl H vs ds → Reps K cl H' vs ds
  | _, _, .nil => .nil
  | _, _, .cons a b => .cons (a.mono e) (Reps.mono e b)
theorem Reps.length : ∀ {vs : List V} {ds : List D}, Reps K cl H vs ds → vs.length = ds.length
  | _, _, .nil => rfl
  | _, _, .cons _ b => by rw [List.length_cons, List.length_cons, Reps.length b]
theorem Reps.get : ∀ {vs : List V} {ds : List D} {i : Nat} {d : D}, Reps K cl H vs ds → ds[i]? = some d → ∃ v, vs[i]? = some v ∧ Rep K cl H v d
  | _, _, _, _, .nil, e => by simp at e
  | _, _, 0, _, .cons a _, e => by
    simp at e
    subst e
    exact ⟨_, rfl, a⟩
  | _, _, i + 1, d, .cons _ b, e => by
    obtain ⟨v, h1, h2⟩ := Reps.get (i := i) (d := d) b (by simpa using e)
    exact ⟨v, by simpa using h1, h2⟩
theorem Reps.getV : ∀ {vs : List V} {ds : List D} {i : Nat} {v : V}, Reps K cl H vs ds → vs[i]? = some v → ∃ d, ds[i]? = some d ∧ Rep K cl H v d
  | _, _, _, _, .nil, e => by simp at e
  | _, _, 0, _, .cons a _, e => by
    simp at e
    subst e
    exact ⟨_, rfl, a⟩
  | _, _, i + 1, d, .cons _ b, e => by
    obtain ⟨v, h1, h2⟩ := Reps.getV (i := i) (v := d) b (by simpa using e)
    exact ⟨v, by simpa using h1, h2⟩
theorem Reps.append : ∀ {vs ws : List V} {ds es : List D}, Reps K cl H vs ds → Reps K cl H ws es → Reps K cl H (vs ++ ws) (ds ++ es)
  | _, _, _, _, .nil, s => s
  | _, _, _, _, .cons a b, s => .cons a (Reps.append b s)
theorem Reps.set {v : V} {d : D} (r : Rep K cl H v d) : ∀ {vs : List V} {ds : List D} (i : Nat), Reps K cl H vs ds → Reps K cl H (vs.set i v) (ds.set i d)
  | _, _, _, .nil => .nil
  | _, _, 0, .cons _ t => .cons r t
  | _, _, i + 1, .cons q t => .cons q (Reps.set r i t)
theorem Reps.take : ∀ {vs : List V} {ds : List D} (n : Nat), Reps K cl H vs ds → Reps K cl H (vs.take n) (ds.take n)
  | _, _, 0, _ => by simpa using Reps.nil
  | _, _, _ + 1, .nil => .nil
  | _, _, n + 1, .cons a b => .cons a (Reps.take n b)
theorem Reps.drop : ∀ {vs : List V} {ds : List D} (n : Nat), Reps K cl H vs ds → Reps K cl H (vs.drop n) (ds.drop n)
  | _, _, 0, r => r
  | _, _, _ + 1, .nil => .nil
  | _, _, n + 1, .cons _ b => Reps.drop n b
theorem Reps.reverse : ∀ {vs : List V} {ds : List D}, Reps K cl H vs ds → Reps K cl H vs.reverse ds.reverse
  | _, _, .nil => .nil
  | _, _, .cons a b => by
    rw [List.reverse_cons, List.reverse_cons]
    exact (Reps.reverse b).append (.cons a .nil)
theorem Reps.ints : ∀ {vs : List V} {ns : List Int}, Reps K cl H vs (ns.map D.int) → vs = ns.map V.int
  | _, [], .nil => rfl
  | _, n :: ns, .cons a b => by
    cases a
    rw [List.map_cons, ← Reps.ints b]
theorem reps_ints : ∀ (ns : List Int), Reps K cl H (ns.map V.int) (ns.map D.int)
  | [] => .nil
  | _ :: ns => .cons .int (reps_ints ns)
theorem Reps.strs : ∀ {vs : List V} {ns : List Str}, Reps K cl H vs (ns.map D.str) → vs = ns.map V.str
  | _, [], .nil => rfl
  | _, n :: ns, .cons a b => by
    cases a
    rw [List.map_cons, ← Reps.strs b]
theorem reps_strs : ∀ (ns : List Str), Reps K cl H (ns.map V.str) (ns.map D.str)
  | [] => .nil
  | _ :: ns => .cons .str (reps_strs ns)
end

/-- a prefix -/
def Pre (l m : List Addr) : Prop := ∃ r, m = l ++ r
theorem Pre.refl (l : List Addr) : Pre l l := ⟨[], by simp⟩
theorem Pre.trans {l m n : List Addr} (a : Pre l m) (b : Pre m n) : Pre l n := by
  obtain ⟨r, rfl⟩ := a
  obtain ⟨q, rfl⟩ := b
  exact ⟨r ++ q, by simp⟩
theorem Pre.cut {l m : List Addr} (h : Pre l m) {n : Nat} (hn : l.length ≤ n) : Pre l (m.take n) := by
  obtain ⟨r, rfl⟩ := h
  exact ⟨r.take (n - l.length), by rw [List.take_append, List.take_of_length_le hn]⟩
theorem Pre.len {l m : List Addr} (h : Pre l m) : l.length ≤ m.length := by
  obtain ⟨r, rfl⟩ := h
  simp
theorem Pre.get {l m : List Addr} (h : Pre l m) {n : Nat} {a : Addr} (e : l[n]? = some a) : m[n]? = some a := by
  obtain ⟨r, rfl⟩ := h
  rw [List.getElem?_append_left (List.getElem?_eq_some_iff.mp e).1]
  exact e

/-- what a slot holds, what is passed and handed back: a datum, or a place of the store -/
inductive A where
  | val (d : D) | loc (n : Nat) | fv (k : Nat)
  deriving Inhabited
/-- what stands at a place of the store -/
inductive Con where
  | lst (xs : List D) | dic (ks vs : List D) | dit (ks vs : List D) | ins (C : Nat) (ns : List Str) (vs : List D)
  deriving Inhabited
abbrev Store := List (Option Con)
abbrev Env := List (Option A)

section
variable (K : PySem.W.Frag) (cl : CL)
def RepA (Hv : Hp) (ad : List Addr) (v : V) : A → Prop
  | .val d => Rep K cl Hv v d
  | .loc n => ∃ a, v = .ref a ∧ ad[n]? = some a
  | .fv k => ∃ a, v = .ref a ∧ cl.fvs[k]? = some a
inductive RepAs (Hv : Hp) (ad : List Addr) : List V → List A → Prop where
  | nil : RepAs Hv ad [] []
  | cons {v : V} {a : A} {vs : List V} {as : List A} : RepA K cl Hv ad v a → RepAs Hv ad vs as → RepAs Hv ad (v :: vs) (a :: as)
def ConAt (Hv : Hp) (ad : List Addr) (H : Hp) (a : Addr) : Con → Prop
  | .lst ds => ∃ xs, H a = some (.lst xs) ∧ Reps K cl Hv xs ds
  | .dic ks vs => ∃ kvs, H a = some (.dK kvs) ∧ ks = kvs.map (fun p => keyD p.1) ∧ Reps K cl Hv (kvs.map (·.2)) vs
  | .dit ks vs => ∃ kvs, H a = some (.dT kvs) ∧ ks = kvs.map (fun p => .tup (p.1.map keyD)) ∧ Reps K cl Hv (kvs.map (·.2)) vs
  | .ins C ns vs => ∃ dx fs, H a = some (.ins (cl C) dx fs) ∧ fs.map (·.1) = ns ∧ Reps K cl Hv (fs.map (·.2)) vs
structure StOk (Hv H : Hp) (S : Store) (ad : List Addr) : Prop where
  ex : Ex Hv H
  len : ad.length = S.length
  at_ : ∀ (n : Nat) (c : Con), S[n]? = some (some c) → ∃ a, ad[n]? = some a ∧ Hv a = none ∧ ConAt K cl Hv ad H a c
  inj : ∀ (n m : Nat) (c c' : Con) (a : Addr), S[n]? = some (some c) → S[m]? = some (some c') → ad[n]? = some a → ad[m]? = some a → n = m
  sm : ∃ o φ, Hv sysModules = some (.frz o (.ext φ))
  tb : LamX.Tabs cl.tabs H
  tn : ∀ b ps, Hv b ≠ some (.tbl ps)
  kn : Ex cl.kn Hv
  ka : Pre cl.ka ad
structure RepEnv (Hv : Hp) (ad : List Addr) (σ : St) (env : Env) : Prop where
  len : σ.length = env.length
  at_ : ∀ (i : Nat) a, env[i]? = some (some a) → ∃ v, σ[i]? = some (some v) ∧ RepA K cl Hv ad v a
end

section
variable {K : PySem.W.Frag} {cl : CL} {Hv Hv' H H' : Hp} {ad ad' : List Addr}
theorem RepA.mono (e : Ex Hv Hv') (p : Pre ad ad') {v : V} : ∀ {a : A}, RepA K cl Hv ad v a → RepA K cl Hv' ad' v a
  | .val _, h => Rep.mono e h
  | .loc _, ⟨x, h1, h2⟩ => ⟨x, h1, p.get h2⟩
  | .fv _, h => h
theorem RepAs.mono (e : Ex Hv Hv') (p : Pre ad ad') : ∀ {vs : List V} {as : List A}, RepAs K cl Hv ad vs as → RepAs K cl Hv' ad' vs as
  | _, _, .nil => .nil
  | _, _, .cons a b => .cons (a.mono e p) (RepAs.mono e p b)
theorem RepAs.length : ∀ {vs : List V} {as : List A}, RepAs K cl Hv ad vs as → vs.length = as.length
  | _, _, .nil => rfl
  | _, _, .cons _ b => by rw [List.length_cons, List.length_cons, RepAs.length b]
theorem RepAs.get : ∀ {vs : List V} {as : List A} {i : Nat} {a : A}, RepAs K cl Hv ad vs as → as[i]? = some a → ∃ v, vs[i]? = some v ∧ RepA K cl Hv ad v a
  | _, _, _, _, .nil, e => by simp at e
  | _, _, 0, _, .cons a _, e => by
    simp at e
    subst e
    exact ⟨_, rfl, a⟩
  | _, _, i + 1, d, .cons _ b, e => by
    obtain ⟨v, h1, h2⟩ := RepAs.get (i := i) (a := d) b (by simpa using e)
    exact ⟨v, by simpa using h1, h2⟩
theorem RepAs.append : ∀ {vs ws : List V} {as bs : List A}, RepAs K cl Hv ad vs as → RepAs K cl Hv ad ws bs → RepAs K cl Hv ad (vs ++ ws) (as ++ bs)
  | _, _, _, _, .nil, s => s
  | _, _, _, _, .cons a b, s => .cons a (RepAs.append b s)
theorem RepAs.vals : ∀ {vs : List V} {ds : List D}, Reps K cl Hv vs ds → RepAs K cl Hv ad vs (ds.map A.val)
  | _, _, .nil => .nil
  | _, _, .cons a b => .cons a (RepAs.vals b)
theorem ConAt.mono (e : Ex Hv Hv') (p : Pre ad ad') {a : Addr} : ∀ {c : Con}, ConAt K cl Hv ad H a c → ConAt K cl Hv' ad' H a c
  | .lst _, ⟨xs, h, r⟩ => ⟨xs, h, r.mono e⟩
  | .dic _ _, ⟨kvs, h, q, r⟩ => ⟨kvs, h, q, r.mono e⟩
  | .dit _ _, ⟨kvs, h, q, r⟩ => ⟨kvs, h, q, r.mono e⟩
  | .ins _ _ _, ⟨dx, fs, h, q, r⟩ => ⟨dx, fs, h, q, r.mono e⟩
theorem ConAt.heap {a : Addr} (e : H' a = H a) : ∀ {c : Con}, ConAt K cl Hv ad H a c → ConAt K cl Hv ad H' a c
  | .lst _, ⟨xs, h, r⟩ => ⟨xs, e.trans h, r⟩
  | .dic _ _, ⟨kvs, h, q, r⟩ => ⟨kvs, e.trans h, q, r⟩
  | .dit _ _, ⟨kvs, h, q, r⟩ => ⟨kvs, e.trans h, q, r⟩
  | .ins _ _ _, ⟨dx, fs, h, q, r⟩ => ⟨dx, fs, e.trans h, q, r⟩
theorem ConAt.thing {a : Addr} : ∀ {c : Con}, ConAt K cl Hv ad H a c → ∃ o, H a = some o
  | .lst _, ⟨_, h, _⟩ => ⟨_, h⟩
  | .dic _ _, ⟨_, h, _⟩ => ⟨_, h⟩
  | .dit _ _, ⟨_, h, _⟩ => ⟨_, h⟩
  | .ins _ _ _, ⟨_, _, h, _⟩ => ⟨_, h⟩
/-- what stands at a place of the store is no table, no thing of the outside -/
def NT : HO → Prop
  | .lst _ | .dK _ | .dT _ | .ins _ _ _ => True
  | _ => False
theorem NT.tbl {ps : Array Value} (h : NT (.tbl ps)) : False := h
theorem NT.ext {φ : Heap → Prop} (h : NT (.ext φ)) : False := h
theorem ConAt.kind {a : Addr} : ∀ {c : Con}, ConAt K cl Hv ad H a c → ∃ o, H a = some o ∧ NT o
  | .lst _, ⟨_, h, _⟩ => ⟨_, h, trivial⟩
  | .dic _ _, ⟨_, h, _⟩ => ⟨_, h, trivial⟩
  | .dit _ _, ⟨_, h, _⟩ => ⟨_, h, trivial⟩
  | .ins _ _ _, ⟨_, _, h, _⟩ => ⟨_, h, trivial⟩
theorem tabs_new {T : List (Addr × Str)} {p : Addr} {o : HO} (h : LamX.Tabs T H) (hp : H p = none) : LamX.Tabs T (upd H p o) := h.ext (Ex.new hp)
theorem tabs_at {T : List (Addr × Str)} {a : Addr} {u o : HO} (h : LamX.Tabs T H) (ha : H a = some u) (hu : NT u) : LamX.Tabs T (upd H a o) := fun p hp => by
  obtain ⟨ps, h1, h2, h3⟩ := h p hp
  have n1 : p.1 ≠ a := fun z => by
    rw [z, ha] at h1
    cases h1
    exact hu
  refine ⟨ps, by rw [upd_ne n1]; exact h1, h2, fun pos cv hc => ?_⟩
  obtain ⟨c, e1, e2⟩ := h3 pos cv hc
  have n2 : c ≠ a := fun z => by
    rw [z, ha] at e2
    unfold LamX.CodeO at e2
    cases e2
    exact hu
  exact ⟨c, e1, by rw [upd_ne n2]; exact e2⟩
theorem tn_new {p : Addr} {o : HO} (h : ∀ b ps, Hv b ≠ some (.tbl ps)) (ho : ∀ ps, o ≠ .tbl ps) : ∀ b ps, upd Hv p o b ≠ some (.tbl ps) := fun b ps z => by
  by_cases hb : b = p
  · subst hb
    rw [upd_same] at z
    exact ho ps (Option.some.inj z)
  · rw [upd_ne hb] at z
    exact h b ps z
theorem RepEnv.mono {σ : St} {env : Env} (e : Ex Hv Hv') (p : Pre ad ad') (h : RepEnv K cl Hv ad σ env) : RepEnv K cl Hv' ad' σ env :=
  ⟨h.len, fun i a q => let ⟨v, h1, h2⟩ := h.at_ i a q; ⟨v, h1, h2.mono e p⟩⟩
theorem RepEnv.set {σ : St} {env : Env} {v : V} {a : A} (h : RepEnv K cl Hv ad σ env) (i : Nat) (r : RepA K cl Hv ad v a) : RepEnv K cl Hv ad (σ.set i (some v)) (env.set i (some a)) := by
  refine ⟨by rw [List.length_set, List.length_set, h.len], fun j b q => ?_⟩
  by_cases hj : i = j
  · subst hj
    by_cases hl : i < env.length
    · rw [List.getElem?_set_self hl] at q
      cases q
      exact ⟨v, List.getElem?_set_self (by rw [h.len]; exact hl), r⟩
    · rw [List.getElem?_eq_none (by rw [List.length_set]; omega)] at q
      cases q
  · rw [List.getElem?_set_ne hj] at q ⊢
    exact h.at_ j b q
theorem RepEnv.unset {σ : St} {env : Env} {v : Option V} (h : RepEnv K cl Hv ad σ env) (i : Nat) : RepEnv K cl Hv ad (σ.set i v) (env.set i none) := by
  refine ⟨by rw [List.length_set, List.length_set, h.len], fun j b q => ?_⟩
  by_cases hj : i = j
  · subst hj
    by_cases hl : i < env.length
    · rw [List.getElem?_set_self hl] at q
      cases q
    · rw [List.getElem?_eq_none (by rw [List.length_set]; omega)] at q
      cases q
  · rw [List.getElem?_set_ne hj] at q ⊢
    exact h.at_ j b q
/-- a new object that is no place of the store, frozen at once -/
theorem StOk.new {S : Store} {p : Addr} {o : HO} (h : StOk K cl Hv H S ad) (hp : H p = none) (ho : ∀ ps, o ≠ .tbl ps := by intro _ z; cases z) : StOk K cl (upd Hv p o) (upd H p o) S ad := by
  have hvp : Hv p = none := h.ex.nn hp
  refine ⟨h.ex.both hvp, h.len, fun n c q => ?_, h.inj, h.sm.elim fun o z => z.elim fun φ z => ⟨o, φ, Ex.new hvp _ _ z⟩, tabs_new h.tb hp, tn_new h.tn ho, h.kn.trans (Ex.new hvp), h.ka⟩
  obtain ⟨a, h1, h2, h3⟩ := h.at_ n c q
  obtain ⟨u, h4⟩ := h3.thing
  have ne : a ≠ p := ne_of_none h4 hp
  exact ⟨a, h1, by rw [upd_ne ne]; exact h2, (h3.mono (Ex.new hvp) (Pre.refl ad)).heap (upd_ne ne)⟩
/-- a new object that nobody sees -/
theorem StOk.hid {S : Store} {p : Addr} {o : HO} (h : StOk K cl Hv H S ad) (hp : H p = none) : StOk K cl Hv (upd H p o) S ad := by
  refine ⟨h.ex.trans (Ex.new hp), h.len, fun n c q => ?_, h.inj, h.sm, tabs_new h.tb hp, h.tn, h.kn, h.ka⟩
  obtain ⟨a, h1, h2, h3⟩ := h.at_ n c q
  obtain ⟨u, h4⟩ := h3.thing
  exact ⟨a, h1, h2, h3.heap (upd_ne (ne_of_none h4 hp))⟩
/-- a new place of the store -/
theorem StOk.alloc {S : Store} {p : Addr} {o : HO} {c : Con} (h : StOk K cl Hv H S ad) (hp : H p = none) (hc : ConAt K cl Hv (ad ++ [p]) (upd H p o) p c) : StOk K cl Hv (upd H p o) (S ++ [some c]) (ad ++ [p]) := by
  have hvp : Hv p = none := h.ex.nn hp
  have old : ∀ (n : Nat) (x : Option Con), (S ++ [some c])[n]? = some x → n < S.length → S[n]? = some x := fun n x q hn => by
    rw [List.getElem?_append_left hn] at q
    exact q
  have new : ∀ (n : Nat) (x : Con), (S ++ [some c])[n]? = some (some x) → ¬ n < S.length → n = S.length ∧ x = c := fun n x q hn => by
    have hl := (List.getElem?_eq_some_iff.mp q).1
    rw [List.length_append, List.length_singleton] at hl
    have e : n = S.length := by omega
    subst e
    rw [List.getElem?_append_right (Nat.le_refl _)] at q
    simp at q
    exact ⟨rfl, q.symm⟩
  have pre : Pre ad (ad ++ [p]) := ⟨[p], rfl⟩
  have adl : ∀ (n : Nat) (a : Addr), (ad ++ [p])[n]? = some a → n < S.length → ad[n]? = some a := fun n a q hn => by
    rw [List.getElem?_append_left (by rw [h.len]; exact hn)] at q
    exact q
  have adn : ∀ (a : Addr), (ad ++ [p])[S.length]? = some a → a = p := fun a q => by
    rw [List.getElem?_append_right (by rw [h.len]; exact Nat.le_refl _), h.len] at q
    simp at q
    exact q.symm
  have live : ∀ (n : Nat) (x : Con) (a : Addr), S[n]? = some (some x) → ad[n]? = some a → a ≠ p := fun n x a q qa => by
    obtain ⟨a', h1, _, h3⟩ := h.at_ n x q
    rw [qa] at h1
    cases h1
    obtain ⟨u, h4⟩ := h3.thing
    exact ne_of_none h4 hp
  refine ⟨h.ex.trans (Ex.new hp), by simp [h.len], fun n x q => ?_, fun n m x y a q1 q2 a1 a2 => ?_, h.sm, tabs_new h.tb hp, h.tn, h.kn, h.ka.trans ⟨[p], rfl⟩⟩
  · by_cases hn : n < S.length
    · obtain ⟨a, h1, h2, h3⟩ := h.at_ n x (old n _ q hn)
      exact ⟨a, pre.get h1, h2, (h3.mono (Ex.refl _) pre).heap (upd_ne (live n x a (old n _ q hn) h1))⟩
    · obtain ⟨rfl, rfl⟩ := new n x q hn
      exact ⟨p, by rw [← h.len]; simp, hvp, hc⟩
  · by_cases hn : n < S.length
    · by_cases hm : m < S.length
      · exact h.inj n m x y a (old n _ q1 hn) (old m _ q2 hm) (adl n a a1 hn) (adl m a a2 hm)
      · obtain ⟨rfl, rfl⟩ := new m y q2 hm
        exact absurd (adn a a2) (live n x a (old n _ q1 hn) (adl n a a1 hn))
    · obtain ⟨rfl, rfl⟩ := new n x q1 hn
      by_cases hm : m < S.length
      · exact absurd (adn a a1) (live m y a (old m _ q2 hm) (adl m a a2 hm))
      · obtain ⟨rfl, rfl⟩ := new m y q2 hm
        rfl
/-- a place of the store is written -/
theorem StOk.write {S : Store} {n : Nat} {a : Addr} {c c' : Con} {o : HO} (h : StOk K cl Hv H S ad) (hn : S[n]? = some (some c)) (ha : ad[n]? = some a) (hc : ConAt K cl Hv ad (upd H a o) a c') : StOk K cl Hv (upd H a o) (S.set n (some c')) ad := by
  have hln := (List.getElem?_eq_some_iff.mp hn).1
  obtain ⟨a', h1, hva, hcon⟩ := h.at_ n c hn
  rw [ha] at h1
  cases h1
  obtain ⟨u0, hu0, hnt⟩ := hcon.kind
  have back : ∀ (m : Nat) (x : Con), (S.set n (some c'))[m]? = some (some x) → n ≠ m → S[m]? = some (some x) := fun m x q hm => by
    rw [List.getElem?_set_ne hm] at q
    exact q
  have was : ∀ (m : Nat) (x : Con), (S.set n (some c'))[m]? = some (some x) → ∃ y, S[m]? = some (some y) := fun m x q => by
    by_cases hm : n = m
    · subst hm
      exact ⟨c, hn⟩
    · exact ⟨x, back m x q hm⟩
  refine ⟨fun b u e => ?_, by rw [List.length_set]; exact h.len, fun m x q => ?_, fun m k x y b q1 q2 a1 a2 => ?_, h.sm, tabs_at h.tb hu0 hnt, h.tn, h.kn, h.ka⟩
  · rw [upd_ne (ne_of_none e hva)]
    exact h.ex b u e
  · by_cases hm : n = m
    · subst hm
      rw [List.getElem?_set_self hln] at q
      cases q
      exact ⟨a, ha, hva, hc⟩
    · obtain ⟨b, h1, h2, h3⟩ := h.at_ m x (back m x q hm)
      refine ⟨b, h1, h2, h3.heap (upd_ne fun z => ?_)⟩
      subst z
      exact hm (h.inj n m c x b hn (back m x q hm) ha h1)
  · obtain ⟨x', q1'⟩ := was m x q1
    obtain ⟨y', q2'⟩ := was k y q2
    exact h.inj m k x' y' b q1' q2' a1 a2
/-- places of the store from n on are let go -/
theorem StOk.take {S : Store} (h : StOk K cl Hv H S ad) (n : Nat) (hka : cl.ka.length ≤ n) : StOk K cl Hv H (S.take n) (ad.take n) := by
  have back : ∀ (m : Nat) (x : Option Con), (S.take n)[m]? = some x → m < n ∧ S[m]? = some x := fun m x q => by
    rw [List.getElem?_take] at q
    by_cases hm : m < n
    · rw [if_pos hm] at q
      exact ⟨hm, q⟩
    · rw [if_neg hm] at q
      cases q
  have adb : ∀ (m : Nat) (a : Addr), (ad.take n)[m]? = some a → ad[m]? = some a := fun m a q => by
    rw [List.getElem?_take] at q
    by_cases hm : m < n
    · rw [if_pos hm] at q
      exact q
    · rw [if_neg hm] at q
      cases q
  refine ⟨h.ex, by simp [h.len], fun m c q => ?_, fun m k x y a q1 q2 a1 a2 => h.inj m k x y a (back m _ q1).2 (back k _ q2).2 (adb m a a1) (adb k a a2), h.sm, h.tb, h.tn, h.kn, h.ka.cut hka⟩
  obtain ⟨hm, q'⟩ := back m _ q
  obtain ⟨a, h1, h2, h3⟩ := h.at_ m c q'
  refine ⟨a, by rw [List.getElem?_take, if_pos hm]; exact h1, h2, ?_⟩
  cases c with
  | lst ds => exact h3
  | dic ks vs => exact h3
  | dit ks vs => exact h3
  | ins C ns as => exact h3
/-- what stands at a place, as a datum -/
def conD : Con → D
  | .lst xs => .lst xs
  | .dic ks vs => .dic ks vs
  | .dit ks vs => .dic ks vs
  | .ins C ns vs => .obj C ns vs
/-- what may be frozen as it stands | locked first -/
def Con.plain : Con → Bool
  | .dic _ _ => false
  | .dit _ _ => false
  | _ => true
theorem ConAt.rep {a : Addr} {o : HO} (hv : Hv a = none) (ho : H a = some o) : ∀ {c : Con}, c.plain = true → ConAt K cl Hv ad H a c → Rep K cl (upd Hv a o) (.ref a) (conD c)
  | .lst _, _, ⟨xs, h, r⟩ => by
    rw [ho] at h
    cases h
    exact .lst upd_same (r.mono (Ex.new hv))
  | .ins _ _ _, _, ⟨dx, fs, h, q, r⟩ => by
    rw [ho] at h
    cases h
    exact .obj upd_same q (r.mono (Ex.new hv))
theorem ConAt.repD {a : Addr} {o : Obj} {u : HO} (hv : Hv a = none) (hu : H a = some u) : ∀ {c : Con}, c.plain = false → ConAt K cl Hv ad H a c → Mut (some u) ∧ Rep K cl (upd Hv a (.frz o u)) (.ref a) (conD c)
  | .dic _ _, _, ⟨kvs, h, q, r⟩ => by
    rw [hu] at h
    cases h
    exact ⟨trivial, .dK upd_same q (r.mono (Ex.new hv))⟩
  | .dit _ _, _, ⟨kvs, h, q, r⟩ => by
    rw [hu] at h
    cases h
    exact ⟨trivial, .dT upd_same q (r.mono (Ex.new hv))⟩
/-- a place of the store is frozen: it changes no more -/
theorem StOk.freezeAs {S : Store} {n : Nat} {a : Addr} {c : Con} {o : HO} (h : StOk K cl Hv H S ad) (hn : S[n]? = some (some c)) (ha : ad[n]? = some a) (ho : ∀ ps, o ≠ .tbl ps := by intro _ z; cases z) : StOk K cl (upd Hv a o) (upd H a o) (S.set n none) ad := by
  have hln := (List.getElem?_eq_some_iff.mp hn).1
  obtain ⟨a', h1, hva, hcon⟩ := h.at_ n c hn
  rw [ha] at h1
  cases h1
  obtain ⟨u0, hu0, hnt⟩ := hcon.kind
  have back : ∀ (m : Nat) (x : Con), (S.set n none)[m]? = some (some x) → n ≠ m ∧ S[m]? = some (some x) := fun m x q => by
    by_cases hm : n = m
    · subst hm
      rw [List.getElem?_set_self hln] at q
      cases q
    · rw [List.getElem?_set_ne hm] at q
      exact ⟨hm, q⟩
  refine ⟨h.ex.both hva, by rw [List.length_set]; exact h.len, fun m x q => ?_, fun m k x y b q1 q2 a1 a2 => h.inj m k x y b (back m x q1).2 (back k y q2).2 a1 a2, h.sm.elim fun o z => z.elim fun φ z => ⟨o, φ, Ex.new hva _ _ z⟩, tabs_at h.tb hu0 hnt, tn_new h.tn ho, h.kn.trans (Ex.new hva), h.ka⟩
  obtain ⟨hm, q'⟩ := back m x q
  obtain ⟨b, h1, h2, h3⟩ := h.at_ m x q'
  have hb : b ≠ a := fun z => by
    subst z
    exact hm (h.inj n m c x b hn q' ha h1)
  exact ⟨b, h1, by rw [upd_ne hb]; exact h2, (h3.mono (Ex.new hva) (Pre.refl _)).heap (upd_ne hb)⟩
theorem upd_self {a : Addr} {o : HO} (h : H a = some o) : upd H a o = H := by
  funext b
  by_cases hb : b = a
  · subst hb
    rw [upd_same, h]
  · rw [upd_ne hb]
theorem StOk.freeze {S : Store} {n : Nat} {a : Addr} {c : Con} {o : HO} (h : StOk K cl Hv H S ad) (hn : S[n]? = some (some c)) (ha : ad[n]? = some a) (ho : H a = some o) : StOk K cl (upd Hv a o) H (S.set n none) ad := by
  obtain ⟨a', h1, _, hcon⟩ := h.at_ n c hn
  rw [ha] at h1
  cases h1
  obtain ⟨u0, hu0, hnt⟩ := hcon.kind
  have e := h.freezeAs (o := o) hn ha (fun ps z => by
    rw [ho] at hu0
    cases hu0
    subst z
    exact hnt)
  rw [upd_self ho] at e
  exact e
end
end R


namespace R
open PySem L2

inductive Out (α : Type) where
  | ok (a : α) (S : Store)
  | exc (c : Nat) (ns : List Str) (vs : List D) (S : Store)
  | bad
def Out.bind {α β : Type} (o : Out α) (k : α → Store → Out β) : Out β := match o with
  | .ok a S => k a S
  | .exc c ns vs S => .exc c ns vs S
  | .bad => .bad
abbrev Ev (α : Type) := Env → Store → Out α

section
variable (K : PySem.W.Frag) (cl : CL)
/-- the fields of an exception: dd its own dict -/
def ExcAt (Hv H : Hp) (ns : List Str) (vs : List D) : Option Addr → Prop
  | some d => ∃ fs, H d = some (.xd fs) ∧ HasF fs ns ∧ Reps K cl Hv (flds fs ns) vs
  | none => ns = [] ∧ vs = []
/-- what is wanted behind: R of what comes out, W of an exception -/
def Pst {α : Type} (W : WX) (σ : St) (Hv : Hp) (ad : List Addr) (R : α → Store → Hp → List Addr → Hp → Prop) : Out α → Prop
  | .ok a S' => ∀ Hv' ad' H', Ex Hv Hv' → Pre ad ad' → StOk K cl Hv' H' S' ad' → R a S' Hv' ad' H'
  | .exc c ns vs S' => ∀ Hv' ad' H' dd, Ex Hv Hv' → Pre ad ad' → StOk K cl Hv' H' S' ad' → ExcAt K cl Hv' H' ns vs dd → W (.ref (cl c)) dd σ H'
  | .bad => False
def RA (Q : VK) : A → Store → Hp → List Addr → Hp → Prop := fun a _ Hv' ad' H' => ∀ v, RepA K cl Hv' ad' v a → Q v H'
def RAs (Q : List V → Hp → Prop) : List A → Store → Hp → List Addr → Hp → Prop := fun as _ Hv' ad' H' => ∀ vs, RepAs K cl Hv' ad' vs as → Q vs H'
def RB (Q : Bool → Hp → Prop) : Bool → Store → Hp → List Addr → Hp → Prop := fun b _ _ _ H' => Q b H'
def RdE (W : WX) (t : TE) (f : Ev A) : Prop := ∀ (σ : St) (Hv H : Hp) (S : Store) (ad : List Addr) (env : Env) (Q : VK), RepEnv K cl Hv ad σ env → StOk K cl Hv H S ad → Pst K cl W σ Hv ad (RA K cl Q) (f env S) → t σ H Q
def RdA (W : WX) (t : TA) (f : Ev (List A)) : Prop := ∀ (σ : St) (Hv H : Hp) (S : Store) (ad : List Addr) (env : Env) (Q : List V → Hp → Prop), RepEnv K cl Hv ad σ env → StOk K cl Hv H S ad → Pst K cl W σ Hv ad (RAs K cl Q) (f env S) → t σ H Q
def RdT (W : WX) (t : TT) (f : Ev Bool) : Prop := ∀ (σ : St) (Hv H : Hp) (S : Store) (ad : List Addr) (env : Env) (Q : Bool → Hp → Prop), RepEnv K cl Hv ad σ env → StOk K cl Hv H S ad → Pst K cl W σ Hv ad (RB Q) (f env S) → t σ H Q
/-- an operation on two values -/
def RdO (W : WX) (r : R2) (h : A → A → Store → Out A) : Prop := ∀ (σ : St) (Hv H : Hp) (S : Store) (ad : List Addr) (x y : V) (a b : A) (Q : VK), StOk K cl Hv H S ad → RepA K cl Hv ad x a → RepA K cl Hv ad y b → Pst K cl W σ Hv ad (RA K cl Q) (h a b S) → r x y H Q
def RdU (W : WX) (r : V → Hp → VK → Prop) (h : A → Store → Out A) : Prop := ∀ (σ : St) (Hv H : Hp) (S : Store) (ad : List Addr) (x : V) (a : A) (Q : VK), StOk K cl Hv H S ad → RepA K cl Hv ad x a → Pst K cl W σ Hv ad (RA K cl Q) (h a S) → r x H Q
def RdC (W : WX) (r : List V → Hp → VK → Prop) (h : List A → Store → Out A) : Prop := ∀ (σ : St) (Hv H : Hp) (S : Store) (ad : List Addr) (xs : List V) (as : List A) (Q : VK), StOk K cl Hv H S ad → RepAs K cl Hv ad xs as → Pst K cl W σ Hv ad (RA K cl Q) (h as S) → r xs H Q
end

section
variable {K : PySem.W.Frag} {cl : CL} {W : WX} {σ : St} {Hv Hv' H : Hp} {ad ad' : List Addr} {α β : Type}
theorem Pst.mono {R R' : α → Store → Hp → List Addr → Hp → Prop} {o : Out α} (h : Pst K cl W σ Hv ad R o)
    (k : ∀ a S' Hv' ad' H', Ex Hv Hv' → Pre ad ad' → StOk K cl Hv' H' S' ad' → R a S' Hv' ad' H' → R' a S' Hv' ad' H') : Pst K cl W σ Hv ad R' o := by
  cases o with
  | ok a S => exact fun Hv' ad' H' e p s => k a S Hv' ad' H' e p s (h Hv' ad' H' e p s)
  | exc c ns vs S => exact h
  | bad => exact h
theorem Pst.bind {R : β → Store → Hp → List Addr → Hp → Prop} {o : Out α} {k : α → Store → Out β} (h : Pst K cl W σ Hv ad R (o.bind k)) :
    Pst K cl W σ Hv ad (fun a S' Hv' ad' _ => Pst K cl W σ Hv' ad' R (k a S')) o := by
  cases o with
  | ok a S =>
    intro Hv' ad' H' e p s
    have h' : Pst K cl W σ Hv ad R (k a S) := h
    cases q : k a S with
    | ok b S2 =>
      rw [q] at h'
      exact fun Hv2 ad2 H2 e2 p2 s2 => h' Hv2 ad2 H2 (e.trans e2) (p.trans p2) s2
    | exc c ns vs S2 =>
      rw [q] at h'
      exact fun Hv2 ad2 H2 dd e2 p2 s2 x => h' Hv2 ad2 H2 dd (e.trans e2) (p.trans p2) s2 x
    | bad =>
      rw [q] at h'
      exact h'
  | exc c ns vs S => exact h
  | bad => exact h
/-- the end with nothing changed -/
theorem Pst.here {R : α → Store → Hp → List Addr → Hp → Prop} {a : α} {S : Store} (so : StOk K cl Hv H S ad) (h : Pst K cl W σ Hv ad R (.ok a S)) : R a S Hv ad H := h Hv ad H (Ex.refl _) (Pre.refl _) so
theorem Pst.hereB {Q : Bool → Hp → Prop} {b : Bool} {S : Store} (so : StOk K cl Hv H S ad) (h : Pst K cl W σ Hv ad (RB Q) (.ok b S)) : Q b H := h Hv ad H (Ex.refl _) (Pre.refl _) so
/-- the end with a new frozen object -/
theorem Pst.made {Q : VK} {d : D} {S : Store} {p : Addr} {o : HO} (so : StOk K cl Hv H S ad) (hp : H p = none) (h : Pst K cl W σ Hv ad (RA K cl Q) (.ok (.val d) S)) (r : Rep K cl (upd Hv p o) (.ref p) d) (ho : ∀ ps, o ≠ .tbl ps := by intro _ z; cases z) : Q (.ref p) (upd H p o) :=
  h (upd Hv p o) ad (upd H p o) (Ex.new (so.ex.nn hp)) (Pre.refl _) (so.new hp ho) (.ref p) r
end

/-! ### judgements -/
structure SE (X : Cx) (cl : CL) (W : WX) (e : Expr) (f : Ev A) : Prop where
  ex : ∃ t, PE X e t ∧ RdE X.K cl W t f
structure SA (X : Cx) (cl : CL) (W : WX) (es : List Expr) (f : Ev (List A)) : Prop where
  ex : ∃ t, PA X es t ∧ RdA X.K cl W t f
structure ST (X : Cx) (cl : CL) (W : WX) (e : Expr) (f : Ev Bool) : Prop where
  ex : ∃ t, PT X e t ∧ RdT X.K cl W t f
structure SW (X : Cx) (cl : CL) (W : WX) (e : Expr) (f : Ev Bool) : Prop where
  ex : ∃ t, PW X e t ∧ RdT X.K cl W t f

/-! ### evaluators -/
def eVar (i : Nat) : Ev A := fun env S => match env[i]? with
  | some (some a) => .ok a S
  | _ => .bad
def eC (d : D) : Ev A := fun _ S => .ok (.val d) S
def eOp (h : A → A → Store → Out A) (f g : Ev A) : Ev A := fun env S => (f env S).bind fun a S1 => (g env S1).bind fun b S2 => h a b S2
def eUn (h : A → Store → Out A) (f : Ev A) : Ev A := fun env S => (f env S).bind h
def eNil : Ev (List A) := fun _ S => .ok [] S
def eCons (f : Ev A) (g : Ev (List A)) : Ev (List A) := fun env S => (f env S).bind fun a S1 => (g env S1).bind fun as S2 => .ok (a :: as) S2
def eApp (h : List A → Store → Out A) (f : Ev (List A)) : Ev A := fun env S => (f env S).bind h
def tBool (f : Ev A) : Ev Bool := fun env S => (f env S).bind fun a S1 => match a with
  | .val (.bl b) => .ok b S1
  | _ => .bad
def tAndE (f g : Ev Bool) : Ev Bool := fun env S => (f env S).bind fun b S1 => match b with
  | true => g env S1
  | false => .ok false S1
def tOrE (f g : Ev Bool) : Ev Bool := fun env S => (f env S).bind fun b S1 => match b with
  | true => .ok true S1
  | false => g env S1
def tNotE (f : Ev Bool) : Ev Bool := fun env S => (f env S).bind fun b S1 => .ok (!b) S1
def eAndE (f g : Ev A) : Ev A := fun env S => (f env S).bind fun a S1 => match a with
  | .val (.bl true) => g env S1
  | .val (.bl false) => .ok (.val (.bl false)) S1
  | _ => .bad
def eOrE (f g : Ev A) : Ev A := fun env S => (f env S).bind fun a S1 => match a with
  | .val (.bl true) => .ok (.val (.bl true)) S1
  | .val (.bl false) => g env S1
  | _ => .bad
def eNotE (f : Ev A) : Ev A := fun env S => (f env S).bind fun a S1 => match a with
  | .val (.bl b) => .ok (.val (.bl (!b))) S1
  | _ => .bad
def eIfE (c : Ev Bool) (f g : Ev A) : Ev A := fun env S => (c env S).bind fun b S1 => match b with
  | true => f env S1
  | false => g env S1
/-- the values of a list of data alone -/
def vals? : List A → Option (List D)
  | [] => some []
  | .val d :: r => (vals? r).map (d :: ·)
  | .loc _ :: _ => none
  | .fv _ :: _ => none
def hTup (as : List A) (S : Store) : Out A := match vals? as with
  | some ds => if ds.length ≤ 100000 then .ok (.val (.tup ds)) S else .bad
  | none => .bad
def hLst (as : List A) (S : Store) : Out A := match vals? as with
  | some ds => if ds.length ≤ 100000 then .ok (.val (.lst ds)) S else .bad
  | none => .bad
/-- as a place of the store -/
def hLstN (as : List A) (S : Store) : Out A := match vals? as with
  | some ds => if ds.length ≤ 100000 then .ok (.loc S.length) (S ++ [some (.lst ds)]) else .bad
  | none => .bad

theorem sz_of {n : Nat} (h : n ≤ 100000) : n ≤ sizeLine := Nat.le_trans h (by decide)

section
variable {X : Cx} {cl : CL} {W : WX}
theorem vals_rep {K : PySem.W.Frag} {Hv : Hp} {ad : List Addr} : ∀ {vs : List V} {as : List A} {ds : List D}, RepAs K cl Hv ad vs as → vals? as = some ds → Reps K cl Hv vs ds
  | _, _, ds, .nil, e => by
    cases e
    exact .nil
  | _, _, ds, .cons (a := .val d) (as := as) r rs, e => by
    have e2 : (vals? as).map (d :: ·) = some ds := e
    cases q : vals? as with
    | none =>
      rw [q] at e2
      cases e2
    | some es =>
      rw [q] at e2
      cases e2
      exact .cons r (vals_rep rs q)
  | _, _, ds, .cons (a := .loc n) (as := as) r rs, e => by cases e
  | _, _, ds, .cons (a := .fv n) (as := as) r rs, e => by cases e

theorem se_var (i : Nat) {x : Str} {pos : Pos} (hN : X.N[i]? = some x := by rfl) (hv : Vis X.env.scope x := by first | exact Or.inl rfl | exact Or.inr (Or.inl rfl) | exact Or.inr (Or.inr rfl)) (hd : (x == ("__debug__" : Str)) = false := by decide)
    (hcd : (x == ("__classdict__" : Str)) = false := by decide) : SE X cl W (.Name x pos) (eVar i) := by
  refine ⟨tVar i, pe_var hN hv hd hcd, fun σ Hv H S ad env Q re so h => ?_⟩
  unfold eVar at h
  split at h
  · rename_i a e
    obtain ⟨v, h1, h2⟩ := re.at_ i a e
    exact ⟨v, h1, h.here so v h2⟩
  · exact h.elim
theorem rd_c {v : V} {d : D} (r : ∀ Hv, Rep X.K cl Hv v d) : RdE X.K cl W (tC v) (eC d) := fun σ Hv H S ad env Q re so h => h.here so v (r Hv)
theorem se_int {i : Int} {j : Nat} {pos : Pos} : SE X cl W (.Constant (.int i) j pos) (eC (.int i)) := ⟨_, pe_int, rd_c fun _ => .int⟩
theorem se_str {x : Str} {j : Nat} {pos : Pos} : SE X cl W (.Constant (.str x) j pos) (eC (.str x)) := ⟨_, pe_str, rd_c fun _ => .str⟩
theorem se_bl {b : Bool} {j : Nat} {pos : Pos} : SE X cl W (.Constant (.bool b) j pos) (eC (.bl b)) := ⟨_, pe_bl, rd_c fun _ => .bl⟩
theorem se_non {j : Nat} {pos : Pos} : SE X cl W (.Constant .none j pos) (eC .non) := ⟨_, pe_non, rd_c fun _ => .non⟩

theorem rd_op {r : R2} {ta tb : TE} {f g : Ev A} {h : A → A → Store → Out A} (ha : RdE X.K cl W ta f) (hb : RdE X.K cl W tb g) (ho : RdO X.K cl W r h) : RdE X.K cl W (tOp r ta tb) (eOp h f g) := fun σ Hv H S ad env Q re so q =>
  ha σ Hv H S ad env _ re so (q.bind.mono fun a S1 Hv1 ad1 H1 e1 p1 s1 q1 v1 r1 =>
    hb σ Hv1 H1 S1 ad1 env _ (re.mono e1 p1) s1 (q1.bind.mono fun b S2 Hv2 ad2 H2 e2 p2 s2 q2 v2 r2 =>
      ho σ Hv2 H2 S2 ad2 v1 v2 a b Q s2 (r1.mono e2 p2) r2 q2))
theorem se_op {op : Operator} {a b : Expr} {pos : Pos} {f g : Ev A} {h : A → A → Store → Out A} (hop : ∃ r, OpR X (binaryOp op) r ∧ RdO X.K cl W r h) (ha : SE X cl W a f) (hb : SE X cl W b g) : SE X cl W (.BinOp a op b pos) (eOp h f g) :=
  let ⟨_, pa, ra⟩ := ha.ex
  let ⟨_, pb, rb⟩ := hb.ex
  let ⟨_, h1, h2⟩ := hop
  ⟨_, pe_op h1 pa pb, rd_op ra rb h2⟩
theorem se_cmp {op : CmpOp} {a b : Expr} {pos : Pos} {f g : Ev A} {h : A → A → Store → Out A} (hop : ∃ r, OpR X (compareOp op) r ∧ RdO X.K cl W r h) (ha : SE X cl W a f) (hb : SE X cl W b g) (hm : behindInMarks op b = false := by first | exact nomark _ | rfl) : SE X cl W (.Compare a [op] [b] pos) (eOp h f g) :=
  let ⟨_, pa, ra⟩ := ha.ex
  let ⟨_, pb, rb⟩ := hb.ex
  let ⟨_, h1, h2⟩ := hop
  ⟨_, pe_cmpR h1 pa pb hm, rd_op ra rb h2⟩
theorem st_cmp {op : CmpOp} {a b : Expr} {pos : Pos} {f g : Ev A} {h : A → A → Store → Out A} (hop : ∃ r, OpR X (compareOp op) r ∧ RdO X.K cl W r h) (ha : SE X cl W a f) (hb : SE X cl W b g) (hm : behindInMarks op b = false := by first | exact nomark _ | rfl) : ST X cl W (.Compare a [op] [b] pos) (tBool (eOp h f g)) := by
  obtain ⟨_, pa, ra⟩ := ha.ex
  obtain ⟨_, pb, rb⟩ := hb.ex
  obtain ⟨_, h1, h2⟩ := hop
  refine ⟨_, pt_cmpR h1 pa pb hm, fun σ Hv H S ad env Q re so q => ?_⟩
  refine rd_op ra rb h2 σ Hv H S ad env _ re so (q.bind.mono fun z S1 Hv1 ad1 H1 e1 p1 s1 q1 v1 r1 => ?_)
  split at q1
  · rename_i b
    cases r1
    exact ⟨b, rfl, q1.hereB s1⟩
  · exact q1.elim
theorem se_un {op : UnaryOp} {a : Expr} {pos : Pos} {f : Ev A} {h : A → Store → Out A} (hop : ∃ r, UnR X (unaryOp op) r ∧ RdU X.K cl W r h) (ha : SE X cl W a f) : SE X cl W (.UnaryOp op a pos) (eUn h f) := by
  obtain ⟨_, pa, ra⟩ := ha.ex
  obtain ⟨_, h1, h2⟩ := hop
  refine ⟨_, pe_un h1 pa, fun σ Hv H S ad env Q re so q => ?_⟩
  exact ra σ Hv H S ad env _ re so (q.bind.mono fun a S1 Hv1 ad1 H1 e1 p1 s1 q1 v1 r1 => h2 σ Hv1 H1 S1 ad1 v1 a Q s1 r1 q1)

theorem sa_nil : SA X cl W [] eNil := ⟨_, pa_nil, fun σ Hv H S ad env Q re so h => h.here so [] .nil⟩
theorem sa_cons {e : Expr} {es : List Expr} {f : Ev A} {g : Ev (List A)} (ha : SE X cl W e f) (hr : SA X cl W es g) (hs : starEach (e :: es) X.env = (false, eval e X.env) :: starEach es X.env := by rfl) : SA X cl W (e :: es) (eCons f g) := by
  obtain ⟨_, pa, ra⟩ := ha.ex
  obtain ⟨_, pb, rb⟩ := hr.ex
  refine ⟨_, pa_cons pa pb hs, fun σ Hv H S ad env Q re so q => ?_⟩
  exact ra σ Hv H S ad env _ re so (q.bind.mono fun a S1 Hv1 ad1 H1 e1 p1 s1 q1 v1 r1 =>
    rb σ Hv1 H1 S1 ad1 env _ (re.mono e1 p1) s1 (q1.bind.mono fun as S2 Hv2 ad2 H2 e2 p2 s2 q2 vs r2 => q2.here s2 (v1 :: vs) (.cons (r1.mono e2 p2) r2)))
theorem se_tup {es : List Expr} {x1 : Nat} {pos : Pos} {f : Ev (List A)} (ha : SA X cl W es f) : SE X cl W (.Tuple es x1 pos) (eApp hTup f) := by
  obtain ⟨_, pa, ra⟩ := ha.ex
  refine ⟨_, pe_tup pa, fun σ Hv H S ad env Q re so q => ?_⟩
  refine ra σ Hv H S ad env _ re so (q.bind.mono fun as S1 Hv1 ad1 H1 e1 p1 s1 q1 vs r1 => ?_)
  unfold hTup at q1
  split at q1
  · rename_i ds e
    have rs := vals_rep r1 e
    by_cases hl : ds.length ≤ 100000
    · rw [if_pos hl] at q1
      refine ⟨sz_of (by rw [rs.length]; exact hl), fun p hp => q1.made s1 hp (.tup (.inl (.inl upd_same)) (rs.mono (Ex.new (s1.ex.nn hp))))⟩
    · rw [if_neg hl] at q1
      exact q1.elim
  · exact q1.elim
theorem se_lst {es : List Expr} {pos : Pos} {f : Ev (List A)} (ha : SA X cl W es f) : SE X cl W (.List es pos) (eApp hLst f) := by
  obtain ⟨_, pa, ra⟩ := ha.ex
  refine ⟨_, pe_lst pa, fun σ Hv H S ad env Q re so q => ?_⟩
  refine ra σ Hv H S ad env _ re so (q.bind.mono fun as S1 Hv1 ad1 H1 e1 p1 s1 q1 vs r1 => ?_)
  unfold hLst at q1
  split at q1
  · rename_i ds e
    have rs := vals_rep r1 e
    by_cases hl : ds.length ≤ 100000
    · rw [if_pos hl] at q1
      refine ⟨sz_of (by rw [rs.length]; exact hl), fun p hp => q1.made s1 hp (.lst upd_same (rs.mono (Ex.new (s1.ex.nn hp))))⟩
    · rw [if_neg hl] at q1
      exact q1.elim
  · exact q1.elim
theorem se_lstN {es : List Expr} {pos : Pos} {f : Ev (List A)} (ha : SA X cl W es f) : SE X cl W (.List es pos) (eApp hLstN f) := by
  obtain ⟨_, pa, ra⟩ := ha.ex
  refine ⟨_, pe_lst pa, fun σ Hv H S ad env Q re so q => ?_⟩
  refine ra σ Hv H S ad env _ re so (q.bind.mono fun as S1 Hv1 ad1 H1 e1 p1 s1 q1 vs r1 => ?_)
  unfold hLstN at q1
  split at q1
  · rename_i ds e
    have rs := vals_rep r1 e
    by_cases hl : ds.length ≤ 100000
    · rw [if_pos hl] at q1
      refine ⟨sz_of (by rw [rs.length]; exact hl), fun p hp => q1 Hv1 (ad1 ++ [p]) (upd H1 p (.lst vs)) (Ex.refl _) ⟨[p], rfl⟩ (s1.alloc hp ⟨vs, upd_same, rs⟩) (.ref p) ⟨p, rfl, by rw [← s1.len]; simp⟩⟩
    · rw [if_neg hl] at q1
      exact q1.elim
  · exact q1.elim

/-! ### tests -/
theorem rd_tb {t : TE} {f : Ev A} (h : RdE X.K cl W t f) : RdT X.K cl W (tB t) (tBool f) := fun σ Hv H S ad env Q re so q =>
  h σ Hv H S ad env _ re so (q.bind.mono fun z S1 Hv1 ad1 H1 e1 p1 s1 q1 v1 r1 => by
    split at q1
    · rename_i b
      cases r1
      exact ⟨b, rfl, q1.hereB s1⟩
    · exact q1.elim)
theorem st_val {e : Expr} {f : Ev A} (h : SE X cl W e f) (he : ∀ whole, isTrue e X.env whole = (do let v ← whole; standAt e.pos; holding [v] (truthy v)) := by intro _; rfl) : ST X cl W e (tBool f) :=
  let ⟨_, p, r⟩ := h.ex
  ⟨_, pt_val p he, rd_tb r⟩
theorem st_not {a : Expr} {pos : Pos} {f : Ev Bool} (h : ST X cl W a f) : ST X cl W (.UnaryOp .Not a pos) (tNotE f) :=
  let ⟨_, p, r⟩ := h.ex
  ⟨_, pt_not p, fun σ Hv H S ad env Q re so q => r σ Hv H S ad env _ re so (q.bind.mono fun _ _ _ _ _ _ _ s1 q1 => q1.hereB s1)⟩
theorem rd_and {t u : TT} {f g : Ev Bool} (h1 : RdT X.K cl W t f) (h2 : RdT X.K cl W u g) : RdT X.K cl W (tAnd t u) (tAndE f g) := fun σ Hv H S ad env Q re so q =>
  h1 σ Hv H S ad env _ re so (q.bind.mono fun b S1 Hv1 ad1 H1 e1 p1 s1 q1 => by
    cases b with
    | true => exact h2 σ Hv1 H1 S1 ad1 env Q (re.mono e1 p1) s1 q1
    | false => exact q1.hereB s1)
theorem rd_or {t u : TT} {f g : Ev Bool} (h1 : RdT X.K cl W t f) (h2 : RdT X.K cl W u g) : RdT X.K cl W (tOr t u) (tOrE f g) := fun σ Hv H S ad env Q re so q =>
  h1 σ Hv H S ad env _ re so (q.bind.mono fun b S1 Hv1 ad1 H1 e1 p1 s1 q1 => by
    cases b with
    | true => exact q1.hereB s1
    | false => exact h2 σ Hv1 H1 S1 ad1 env Q (re.mono e1 p1) s1 q1)
variable {a b c : Expr} {rest : List Expr} {pos : Pos}
theorem sw_and1 {f : Ev Bool} (h : ST X cl W a f) : SW X cl W (.BoolOp .And [a] pos) f := let ⟨_, p, r⟩ := h.ex; ⟨_, pw_and1 p, r⟩
theorem sw_or1 {f : Ev Bool} (h : ST X cl W a f) : SW X cl W (.BoolOp .Or [a] pos) f := let ⟨_, p, r⟩ := h.ex; ⟨_, pw_or1 p, r⟩
theorem sw_and {f g : Ev Bool} (h : ST X cl W a f) (k : SW X cl W (.BoolOp .And (b :: rest) pos) g) : SW X cl W (.BoolOp .And (a :: b :: rest) pos) (tAndE f g) := let ⟨_, p, r⟩ := h.ex; let ⟨_, p2, r2⟩ := k.ex; ⟨_, pw_and p p2, rd_and r r2⟩
theorem sw_or {f g : Ev Bool} (h : ST X cl W a f) (k : SW X cl W (.BoolOp .Or (b :: rest) pos) g) : SW X cl W (.BoolOp .Or (a :: b :: rest) pos) (tOrE f g) := let ⟨_, p, r⟩ := h.ex; let ⟨_, p2, r2⟩ := k.ex; ⟨_, pw_or p p2, rd_or r r2⟩
theorem SW.pt {f : Ev Bool} (h : SW X cl W a f) : ST X cl W a f := let ⟨_, p, r⟩ := h.ex; ⟨_, p.pt, r⟩
theorem se_one {op : BoolOp} {f : Ev A} (h : SE X cl W a f) : SE X cl W (.BoolOp op [a] pos) f := let ⟨_, p, r⟩ := h.ex; ⟨_, pe_one p, r⟩
theorem se_and {f g : Ev A} (h : SE X cl W a f) (k : SE X cl W (.BoolOp .And (b :: rest) pos) g) : SE X cl W (.BoolOp .And (a :: b :: rest) pos) (eAndE f g) := by
  obtain ⟨_, p, r⟩ := h.ex
  obtain ⟨_, p2, r2⟩ := k.ex
  refine ⟨_, pe_and p p2, fun σ Hv H S ad env Q re so q => ?_⟩
  refine r σ Hv H S ad env _ re so (q.bind.mono fun z S1 Hv1 ad1 H1 e1 p1 s1 q1 v1 r1 => ?_)
  split at q1
  · cases r1
    exact ⟨true, rfl, r2 σ Hv1 H1 S1 ad1 env Q (re.mono e1 p1) s1 q1⟩
  · cases r1
    exact ⟨false, rfl, q1.here s1 _ .bl⟩
  · exact q1.elim
theorem se_or {f g : Ev A} (h : SE X cl W a f) (k : SE X cl W (.BoolOp .Or (b :: rest) pos) g) : SE X cl W (.BoolOp .Or (a :: b :: rest) pos) (eOrE f g) := by
  obtain ⟨_, p, r⟩ := h.ex
  obtain ⟨_, p2, r2⟩ := k.ex
  refine ⟨_, pe_or p p2, fun σ Hv H S ad env Q re so q => ?_⟩
  refine r σ Hv H S ad env _ re so (q.bind.mono fun z S1 Hv1 ad1 H1 e1 p1 s1 q1 v1 r1 => ?_)
  split at q1
  · cases r1
    exact ⟨true, rfl, q1.here s1 _ .bl⟩
  · cases r1
    exact ⟨false, rfl, r2 σ Hv1 H1 S1 ad1 env Q (re.mono e1 p1) s1 q1⟩
  · exact q1.elim
theorem se_not {f : Ev A} (h : SE X cl W a f) : SE X cl W (.UnaryOp .Not a pos) (eNotE f) := by
  obtain ⟨_, p, r⟩ := h.ex
  refine ⟨_, pe_not p, fun σ Hv H S ad env Q re so q => ?_⟩
  refine r σ Hv H S ad env _ re so (q.bind.mono fun z S1 Hv1 ad1 H1 e1 p1 s1 q1 v1 r1 => ?_)
  split at q1
  · cases r1
    exact ⟨_, rfl, q1.here s1 _ .bl⟩
  · exact q1.elim
theorem se_if {ft : Ev Bool} {f g : Ev A} (hc : ST X cl W c ft) (h : SE X cl W a f) (k : SE X cl W b g) : SE X cl W (.IfExp c a b pos) (eIfE ft f g) := by
  obtain ⟨_, p0, r0⟩ := hc.ex
  obtain ⟨_, p, r⟩ := h.ex
  obtain ⟨_, p2, r2⟩ := k.ex
  refine ⟨_, pe_ifExp p0 p p2, fun σ Hv H S ad env Q re so q => ?_⟩
  refine r0 σ Hv H S ad env _ re so (q.bind.mono fun z S1 Hv1 ad1 H1 e1 p1 s1 q1 => ?_)
  cases z with
  | true => exact r σ Hv1 H1 S1 ad1 env Q (re.mono e1 p1) s1 q1
  | false => exact r2 σ Hv1 H1 S1 ad1 env Q (re.mono e1 p1) s1 q1
end
end R


namespace R
open PySem L2

inductive Fl where
  | nx (env : Env) | rt (a : A) | bk (env : Env) | ct (env : Env)
inductive OutS where
  | ok (f : Fl) (S : Store)
  | exc (c : Nat) (ns : List Str) (vs : List D) (env : Env) (S : Store)
  | bad
abbrev Sv := Env → Store → OutS
def Out.bindS {α : Type} (o : Out α) (env : Env) (k : α → Store → OutS) : OutS := match o with
  | .ok a S => k a S
  | .exc c ns vs S => .exc c ns vs env S
  | .bad => .bad
def OutS.seq (o : OutS) (k : Sv) : OutS := match o with
  | .ok (.nx env) S => k env S
  | .ok (.rt a) S => .ok (.rt a) S
  | .ok (.bk env) S => .ok (.bk env) S
  | .ok (.ct env) S => .ok (.ct env) S
  | .exc c ns vs env S => .exc c ns vs env S
  | .bad => .bad

section
variable (K : PySem.W.Frag) (cl : CL)
def PstS (W : WX) (Hv : Hp) (ad : List Addr) (Dn : Ends) : OutS → Prop
  | .ok (.nx env) S' => ∀ σ' Hv' ad' H', Ex Hv Hv' → Pre ad ad' → StOk K cl Hv' H' S' ad' → RepEnv K cl Hv' ad' σ' env → Dn.nx σ' H'
  | .ok (.rt a) S' => ∀ v Hv' ad' H', Ex Hv Hv' → Pre ad ad' → StOk K cl Hv' H' S' ad' → RepA K cl Hv' ad' v a → Dn.rt v H'
  | .ok (.bk env) S' => ∀ σ' Hv' ad' H', Ex Hv Hv' → Pre ad ad' → StOk K cl Hv' H' S' ad' → RepEnv K cl Hv' ad' σ' env → Dn.bk σ' H'
  | .ok (.ct env) S' => ∀ σ' Hv' ad' H', Ex Hv Hv' → Pre ad ad' → StOk K cl Hv' H' S' ad' → RepEnv K cl Hv' ad' σ' env → Dn.ct σ' H'
  | .exc c ns vs env S' => ∀ σ' Hv' ad' H' dd, Ex Hv Hv' → Pre ad ad' → StOk K cl Hv' H' S' ad' → RepEnv K cl Hv' ad' σ' env → ExcAt K cl Hv' H' ns vs dd → W (.ref (cl c)) dd σ' H'
  | .bad => False
def RdS (W : WX) (t : TS) (f : Sv) : Prop := ∀ (σ : St) (Hv H : Hp) (S : Store) (ad : List Addr) (env : Env) (Dn : Ends), RepEnv K cl Hv ad σ env → StOk K cl Hv H S ad → PstS K cl W Hv ad Dn (f env S) → t Dn σ H
/-- a target -/
def RdG (W : WX) (t : TG) (g : A → Ev Env) : Prop := ∀ (σ : St) (Hv H : Hp) (S : Store) (ad : List Addr) (env : Env) (v : V) (a : A) (Q : St → Hp → Prop), RepEnv K cl Hv ad σ env → StOk K cl Hv H S ad → RepA K cl Hv ad v a →
  Pst K cl W σ Hv ad (fun env' _ Hv' ad' H' => ∀ σ', RepEnv K cl Hv' ad' σ' env' → Q σ' H') (g a env S) → t v σ H Q
def RdGs (W : WX) (t : TGs) (g : List A → Ev Env) : Prop := ∀ (σ : St) (Hv H : Hp) (S : Store) (ad : List Addr) (env : Env) (vs : List V) (as : List A) (Q : St → Hp → Prop), RepEnv K cl Hv ad σ env → StOk K cl Hv H S ad → RepAs K cl Hv ad vs as →
  Pst K cl W σ Hv ad (fun env' _ Hv' ad' H' => ∀ σ', RepEnv K cl Hv' ad' σ' env' → Q σ' H') (g as env S) → t vs σ H Q
end

section
variable {K : PySem.W.Frag} {cl : CL} {W : WX} {σ : St} {Hv Hv' H : Hp} {ad ad' : List Addr} {α β : Type}
theorem PstS.up {Dn : Ends} {o : OutS} (e : Ex Hv Hv') (p : Pre ad ad') (h : PstS K cl W Hv ad Dn o) : PstS K cl W Hv' ad' Dn o := by
  cases o with
  | ok f S =>
    cases f with
    | nx env => exact fun σ2 Hv2 ad2 H2 e2 p2 => h σ2 Hv2 ad2 H2 (e.trans e2) (p.trans p2)
    | rt a => exact fun σ2 Hv2 ad2 H2 e2 p2 => h σ2 Hv2 ad2 H2 (e.trans e2) (p.trans p2)
    | bk env => exact fun σ2 Hv2 ad2 H2 e2 p2 => h σ2 Hv2 ad2 H2 (e.trans e2) (p.trans p2)
    | ct env => exact fun σ2 Hv2 ad2 H2 e2 p2 => h σ2 Hv2 ad2 H2 (e.trans e2) (p.trans p2)
  | exc c ns vs env S => exact fun σ2 Hv2 ad2 H2 dd e2 p2 => h σ2 Hv2 ad2 H2 dd (e.trans e2) (p.trans p2)
  | bad => exact h
/-- an expression, then the rest -/
theorem PstS.bind {env : Env} {Dn : Ends} {o : Out α} {k : α → Store → OutS} (re : RepEnv K cl Hv ad σ env) (h : PstS K cl W Hv ad Dn (o.bindS env k)) :
    Pst K cl W σ Hv ad (fun a S' Hv' ad' _ => PstS K cl W Hv' ad' Dn (k a S')) o := by
  cases o with
  | ok a S => exact fun Hv' ad' H' e p s => h.up e p
  | exc c ns vs S => exact fun Hv' ad' H' dd e p s x => h σ Hv' ad' H' dd e p s (re.mono e p) x
  | bad => exact h
theorem Pst.up {R : α → Store → Hp → List Addr → Hp → Prop} {o : Out α} (e : Ex Hv Hv') (p : Pre ad ad') (h : Pst K cl W σ Hv ad R o) : Pst K cl W σ Hv' ad' R o := by
  cases o with
  | ok a S => exact fun Hv2 ad2 H2 e2 p2 => h Hv2 ad2 H2 (e.trans e2) (p.trans p2)
  | exc c ns vs S => exact fun Hv2 ad2 H2 dd e2 p2 => h Hv2 ad2 H2 dd (e.trans e2) (p.trans p2)
  | bad => exact h
end

structure SS (X : Cx) (cl : CL) (W : WX) (st : Stmt) (f : Sv) : Prop where
  ex : ∃ t, PS X st t ∧ RdS X.K cl W t f
structure SSs (X : Cx) (cl : CL) (W : WX) (st : List Stmt) (f : Sv) : Prop where
  ex : ∃ t, PSs X st t ∧ RdS X.K cl W t f
structure SG (X : Cx) (cl : CL) (W : WX) (tg : Expr) (g : A → Ev Env) : Prop where
  ex : ∃ t, PG X tg t ∧ RdG X.K cl W t g
structure SGs (X : Cx) (cl : CL) (W : WX) (tgs : List Expr) (g : List A → Ev Env) : Prop where
  ex : ∃ t, PGs X tgs t ∧ RdGs X.K cl W t g

/-! ### evaluators -/
def sNext : Sv := fun env S => .ok (.nx env) S
def sSeq (f g : Sv) : Sv := fun env S => (f env S).seq g
def sDrop (f : Ev A) : Sv := fun env S => (f env S).bindS env fun _ S1 => .ok (.nx env) S1
def sRet (f : Ev A) : Sv := fun env S => (f env S).bindS env fun a S1 => .ok (.rt a) S1
def sRetN : Sv := fun _ S => .ok (.rt (.val .non)) S
def sSet (i : Nat) (f : Ev A) : Sv := fun env S => (f env S).bindS env fun a S1 => .ok (.nx (env.set i (some a))) S1
def sIf (c : Ev Bool) (f g : Sv) : Sv := fun env S => (c env S).bindS env fun b S1 => match b with
  | true => f env S1
  | false => g env S1
def sPar (i j : Nat) (f : Ev (List A)) : Sv := fun env S => (f env S).bindS env fun as S1 => match as with
  | [a, b] => .ok (.nx ((env.set i (some a)).set j (some b))) S1
  | _ => .bad
def sPar3 (i j l : Nat) (f : Ev (List A)) : Sv := fun env S => (f env S).bindS env fun as S1 => match as with
  | [a, b, c] => .ok (.nx (((env.set i (some a)).set j (some b)).set l (some c))) S1
  | _ => .bad
def sAsg (f : Ev A) (g : A → Ev Env) : Sv := fun env S => (f env S).bindS env fun a S1 => (g a env S1).bindS env fun env' S2 => .ok (.nx env') S2
def sBreak : Sv := fun env S => .ok (.bk env) S
def sCont : Sv := fun env S => .ok (.ct env) S
/-- targets -/
def gSet (i : Nat) : A → Ev Env := fun a env S => .ok (env.set i (some a)) S
def gNone : List A → Ev Env := fun as env S => match as with
  | [] => .ok env S
  | _ => .bad
def gMore (g : A → Ev Env) (k : List A → Ev Env) : List A → Ev Env := fun as env S => match as with
  | a :: r => (g a env S).bind fun env' S1 => k r env' S1
  | [] => .bad
/-- (a, b, ..) = a tuple -/
def gTupE (n : Nat) (k : List A → Ev Env) : A → Ev Env := fun a env S => match a with
  | .val (.tup ds) => if ds.length = n then k (ds.map A.val) env S else .bad
  | _ => .bad
/-- the place of the store that f tells -/
def atLoc (S : Store) : A → Option (Nat × Con)
  | .loc n => match S[n]? with
    | some (some c) => some (n, c)
    | _ => none
  | .val _ => none
  | .fv _ => none
/-- freeze what a place holds -/
def hFrz (a : A) (S : Store) : Out A := match a with
  | .val d => .ok (.val d) S
  | .loc n => match S[n]? with
    | some (some c) => .ok (.val (conD c)) (S.set n none)
    | _ => .bad
  | .fv _ => .bad
def eFrz (f : Ev A) : Ev A := fun env S => (f env S).bind hFrz

section
variable {X : Cx} {cl : CL} {W : WX} {pos : Pos}
/-- the value, or what it stands for locked for ever -/
def tFrz (t : TE) : TE := fun σ H Q => t σ H fun v H1 => Q v H1 ∨ ∃ d u, H1 d = some u ∧ Mut (some u) ∧ ∀ od, Q v (upd H1 d (.frz od u))
theorem pe_frz {e : Expr} {t : TE} (h : PE X e t) : PE X e (tFrz t) := by
  refine ⟨fun pins s σ H Q I hw => thn (h.run pins s σ H _ I hw) fun v s1 ⟨x, H1, I1, r, q⟩ => ?_⟩
  rcases q with q | ⟨d, u, hd, mu, q⟩
  · exact ⟨x, H1, I1, r, q⟩
  · obtain ⟨od, I2⟩ := I1.lock hd mu
    exact ⟨x, _, I2, r, q od⟩
theorem rd_frz {σ : St} {Hv H : Hp} {S : Store} {ad : List Addr} {v : V} {a : A} {Q : VK} (so : StOk X.K cl Hv H S ad) (r : RepA X.K cl Hv ad v a) (q : Pst X.K cl W σ Hv ad (RA X.K cl Q) (hFrz a S)) : Q v H ∨ ∃ d u, H d = some u ∧ Mut (some u) ∧ ∀ od, Q v (upd H d (.frz od u)) := by
  cases a with
  | val d => exact .inl (q.here so v r)
  | fv k => exact q.elim
  | loc n =>
    obtain ⟨x, rfl, hx⟩ := r
    unfold hFrz at q
    dsimp only at q
    split at q
    · rename_i c e
      obtain ⟨x', h1, h2, h3⟩ := so.at_ n c e
      rw [hx] at h1
      cases h1
      obtain ⟨o, ho⟩ := h3.thing
      cases c with
      | lst ds => exact .inl (q _ ad H (Ex.new h2) (Pre.refl _) (so.freeze e hx ho) (.ref x) (h3.rep h2 ho rfl))
      | ins C ns vs => exact .inl (q _ ad H (Ex.new h2) (Pre.refl _) (so.freeze e hx ho) (.ref x) (h3.rep h2 ho rfl))
      | dic ks vs =>
        refine .inr ⟨x, o, ho, (h3.repD (o := default) h2 ho rfl).1, fun od => ?_⟩
        exact q _ ad _ (Ex.new h2) (Pre.refl _) (so.freezeAs e hx) (.ref x) (h3.repD h2 ho rfl).2
      | dit ks vs =>
        refine .inr ⟨x, o, ho, (h3.repD (o := default) h2 ho rfl).1, fun od => ?_⟩
        exact q _ ad _ (Ex.new h2) (Pre.refl _) (so.freezeAs e hx) (.ref x) (h3.repD h2 ho rfl).2
    · exact q.elim
theorem se_frz {e : Expr} {f : Ev A} (h : SE X cl W e f) : SE X cl W e (eFrz f) :=
  let ⟨_, p, r⟩ := h.ex
  ⟨_, pe_frz p, fun σ Hv H S ad env Q re so q => r σ Hv H S ad env _ re so (q.bind.mono fun a S1 Hv1 ad1 H1 e1 p1 s1 q1 v1 r1 => rd_frz s1 r1 q1)⟩

theorem sss_nil : SSs X cl W [] sNext := ⟨_, pss_nil, fun σ Hv H S ad env Dn re so q => q σ Hv ad H (Ex.refl _) (Pre.refl _) so re⟩
theorem rd_seq {t u : TS} {f g : Sv} (h1 : RdS X.K cl W t f) (h2 : RdS X.K cl W u g) : RdS X.K cl W (tSeq t u) (sSeq f g) := fun σ Hv H S ad env Dn re so q => by
  refine h1 σ Hv H S ad env _ re so ?_
  have q' : PstS X.K cl W Hv ad Dn ((f env S).seq g) := q
  cases e : f env S with
  | ok fl S1 =>
    rw [e] at q'
    cases fl with
    | nx env1 => exact fun σ1 Hv1 ad1 H1 e1 p1 s1 re1 => h2 σ1 Hv1 H1 S1 ad1 env1 Dn re1 s1 (q'.up e1 p1)
    | rt a => exact q'
    | bk env1 => exact q'
    | ct env1 => exact q'
  | exc c ns vs env1 S1 =>
    rw [e] at q'
    exact q'
  | bad =>
    rw [e] at q'
    exact q'
theorem sss_cons {st : Stmt} {rest : List Stmt} {f g : Sv} (h1 : SS X cl W st f) (h2 : SSs X cl W rest g) : SSs X cl W (st :: rest) (sSeq f g) := let ⟨_, p, r⟩ := h1.ex; let ⟨_, p2, r2⟩ := h2.ex; ⟨_, pss_cons p p2, rd_seq r r2⟩
theorem sss_one {st : Stmt} {f : Sv} (h1 : SS X cl W st f) : SSs X cl W [st] f := let ⟨_, p, r⟩ := h1.ex; ⟨_, pss_one p, r⟩
theorem ss_pass : SS X cl W (.Pass pos) sNext := ⟨_, ps_pass, fun σ Hv H S ad env Dn re so q => q σ Hv ad H (Ex.refl _) (Pre.refl _) so re⟩
theorem ss_break : SS X cl W (.Break pos) sBreak := ⟨_, ps_break, fun σ Hv H S ad env Dn re so q => q σ Hv ad H (Ex.refl _) (Pre.refl _) so re⟩
theorem ss_continue : SS X cl W (.Continue pos) sCont := ⟨_, ps_continue, fun σ Hv H S ad env Dn re so q => q σ Hv ad H (Ex.refl _) (Pre.refl _) so re⟩
theorem ss_expr {e : Expr} {f : Ev A} (h : SE X cl W e f) (hs : swapsWith e none pos.line X.env = pure false := by rfl) : SS X cl W (.Expr e pos) (sDrop f) :=
  let ⟨_, p, r⟩ := h.ex
  ⟨_, ps_expr p hs, fun σ Hv H S ad env Dn re so q => r σ Hv H S ad env _ re so ((q.bind re).mono fun a S1 Hv1 ad1 H1 e1 p1 s1 q1 v1 r1 => q1 σ Hv1 ad1 H1 (Ex.refl _) (Pre.refl _) s1 (re.mono e1 p1))⟩
theorem ss_ret {e : Expr} {f : Ev A} (h : SE X cl W e f) : SS X cl W (.Return (some e) pos) (sRet f) :=
  let ⟨_, p, r⟩ := h.ex
  ⟨_, ps_ret p, fun σ Hv H S ad env Dn re so q => r σ Hv H S ad env _ re so ((q.bind re).mono fun a S1 Hv1 ad1 H1 e1 p1 s1 q1 v1 r1 => q1 v1 Hv1 ad1 H1 (Ex.refl _) (Pre.refl _) s1 r1)⟩
theorem ss_retN : SS X cl W (.Return none pos) sRetN := ⟨_, ps_retN, fun σ Hv H S ad env Dn re so q => q .non Hv ad H (Ex.refl _) (Pre.refl _) so .non⟩
theorem ss_set (i : Nat) {x : Str} {e : Expr} {pos' : Pos} {f : Ev A} (hN : X.N.Nodup) (h : SE X cl W e f) (hi : X.N[i]? = some x := by rfl) (hx : Loc X.env.scope x := by first | exact Or.inl rfl | exact Or.inr rfl) (hs : swapsWith e (some (.Name x pos')) pos.line X.env = pure false := by rfl)
    (hf : X.fn x = true ∨ X.env.scope.names.lookup x = some .local := by first | exact .inl rfl | exact .inr rfl | assumption) : SS X cl W (.Assign [.Name x pos'] e pos) (sSet i f) :=
  let ⟨_, p, r⟩ := h.ex
  ⟨_, ps_set hN hi hx p hs hf, fun σ Hv H S ad env Dn re so q => r σ Hv H S ad env _ re so ((q.bind re).mono fun a S1 Hv1 ad1 H1 e1 p1 s1 q1 v1 r1 => q1 _ Hv1 ad1 H1 (Ex.refl _) (Pre.refl _) s1 ((re.mono e1 p1).set i r1))⟩
theorem ss_if {c : Expr} {sa sb : List Stmt} {ft : Ev Bool} {f g : Sv} (hc : ST X cl W c ft) (h : SSs X cl W sa f) (k : SSs X cl W sb g) : SS X cl W (.If c sa sb pos) (sIf ft f g) := by
  obtain ⟨_, p0, r0⟩ := hc.ex
  obtain ⟨_, p, r⟩ := h.ex
  obtain ⟨_, p2, r2⟩ := k.ex
  refine ⟨_, ps_if p0 p p2, fun σ Hv H S ad env Dn re so q => ?_⟩
  refine r0 σ Hv H S ad env _ re so ((q.bind re).mono fun b S1 Hv1 ad1 H1 e1 p1 s1 q1 => ?_)
  cases b with
  | true => exact r σ Hv1 H1 S1 ad1 env Dn (re.mono e1 p1) s1 q1
  | false => exact r2 σ Hv1 H1 S1 ad1 env Dn (re.mono e1 p1) s1 q1
theorem rep2 {K : PySem.W.Frag} {Hv : Hp} {ad : List Addr} {vs : List V} {a b : A} (r : RepAs K cl Hv ad vs [a, b]) : ∃ v w, vs = [v, w] ∧ RepA K cl Hv ad v a ∧ RepA K cl Hv ad w b := by
  cases r with
  | cons r1 r =>
    cases r with
    | cons r2 r =>
      cases r
      exact ⟨_, _, rfl, r1, r2⟩
theorem rep1 {K : PySem.W.Frag} {Hv : Hp} {ad : List Addr} {vs : List V} {a : A} (r : RepAs K cl Hv ad vs [a]) : ∃ v, vs = [v] ∧ RepA K cl Hv ad v a := by
  cases r with
  | cons r1 r =>
    cases r
    exact ⟨_, rfl, r1⟩
theorem rep3 {K : PySem.W.Frag} {Hv : Hp} {ad : List Addr} {vs : List V} {a b c : A} (r : RepAs K cl Hv ad vs [a, b, c]) : ∃ v w u, vs = [v, w, u] ∧ RepA K cl Hv ad v a ∧ RepA K cl Hv ad w b ∧ RepA K cl Hv ad u c := by
  cases r with
  | cons r1 r =>
    obtain ⟨w, u, rfl, r2, r3⟩ := rep2 r
    exact ⟨_, _, _, rfl, r1, r2, r3⟩
theorem ss_par (i j : Nat) {x y : Str} {a b : Expr} {px py pt : Pos} {kt k2 pt2} {f : Ev (List A)} (hN : X.N.Nodup) (ha : SA X cl W [a, b] f) (hc : X.calm = true := by rfl) (hi : X.N[i]? = some x := by rfl) (hj : X.N[j]? = some y := by rfl) (hij : i ≠ j := by decide)
    (hx : X.env.scope.names.lookup x = some .local := by rfl) (hy : X.env.scope.names.lookup y = some .local := by rfl)
    (hw : swappedStores [.Tuple [.Name x px, .Name y py] kt pt] (.Tuple [a, b] k2 pt2) X.env = pure (some [x, y]) := by rfl)
    (hs : swapsWithSole [.Tuple [.Name x px, .Name y py] kt pt] (.Tuple [a, b] k2 pt2) pos.line X.env = pure false := by rfl) : SS X cl W (.Assign [.Tuple [.Name x px, .Name y py] kt pt] (.Tuple [a, b] k2 pt2) pos) (sPar i j f) := by
  obtain ⟨_, p, r⟩ := ha.ex
  refine ⟨_, ps_par hc hN hi hj hij hx hy p hw hs, fun σ Hv H S ad env Dn re so q => ?_⟩
  refine r σ Hv H S ad env _ re so ((q.bind re).mono fun as S1 Hv1 ad1 H1 e1 p1 s1 q1 vs rs => ?_)
  split at q1
  · obtain ⟨v, w, rfl, r1, r2⟩ := rep2 rs
    exact ⟨v, w, rfl, q1 _ Hv1 ad1 H1 (Ex.refl _) (Pre.refl _) s1 (((re.mono e1 p1).set i r1).set j r2)⟩
  · exact q1.elim
theorem ss_par3 (i j l : Nat) {x y z : Str} {a b c : Expr} {px py pz pt : Pos} {kt k2 pt2} {f : Ev (List A)} (hN : X.N.Nodup) (ha : SA X cl W [a, b, c] f) (hc : X.calm = true := by rfl) (hi : X.N[i]? = some x := by rfl) (hj : X.N[j]? = some y := by rfl) (hl : X.N[l]? = some z := by rfl) (hij : i ≠ j := by decide) (hil : i ≠ l := by decide) (hjl : j ≠ l := by decide)
    (hx : X.env.scope.names.lookup x = some .local := by rfl) (hy : X.env.scope.names.lookup y = some .local := by rfl) (hz : X.env.scope.names.lookup z = some .local := by rfl)
    (hw : swappedStores [.Tuple [.Name x px, .Name y py, .Name z pz] kt pt] (.Tuple [a, b, c] k2 pt2) X.env = pure (some [x, y, z]) := by rfl)
    (hs : swapsWithSole [.Tuple [.Name x px, .Name y py, .Name z pz] kt pt] (.Tuple [a, b, c] k2 pt2) pos.line X.env = pure false := by rfl) : SS X cl W (.Assign [.Tuple [.Name x px, .Name y py, .Name z pz] kt pt] (.Tuple [a, b, c] k2 pt2) pos) (sPar3 i j l f) := by
  obtain ⟨_, p, r⟩ := ha.ex
  refine ⟨_, ps_par3 hc hN hi hj hl hij hil hjl hx hy hz p hw hs, fun σ Hv H S ad env Dn re so q => ?_⟩
  refine r σ Hv H S ad env _ re so ((q.bind re).mono fun as S1 Hv1 ad1 H1 e1 p1 s1 q1 vs rs => ?_)
  split at q1
  · obtain ⟨v, w, u, rfl, r1, r2, r3⟩ := rep3 rs
    exact ⟨v, w, u, rfl, q1 _ Hv1 ad1 H1 (Ex.refl _) (Pre.refl _) s1 ((((re.mono e1 p1).set i r1).set j r2).set l r3)⟩
  · exact q1.elim
/-! ### targets -/
theorem sg_name (i : Nat) {x : Str} (hN : X.N.Nodup) (hi : X.N[i]? = some x := by rfl) (hx : Loc X.env.scope x := by first | exact Or.inl rfl | exact Or.inr rfl) (hf : X.fn x = true ∨ X.env.scope.names.lookup x = some .local := by first | exact .inl rfl | exact .inr rfl | assumption) : SG X cl W (.Name x pos) (gSet i) :=
  ⟨_, pg_name hN hi hx hf, fun σ Hv H S ad env v a Q re so r q => q.here so _ (re.set i r)⟩
theorem sgs_nil : SGs X cl W [] gNone := ⟨_, pgs_nil, fun σ Hv H S ad env vs as Q re so r q => by
  cases r with
  | nil => exact ⟨rfl, q.here so σ re⟩
  | cons _ _ => exact q.elim⟩
theorem sgs_cons {e : Expr} {es : List Expr} {g : A → Ev Env} {k : List A → Ev Env} (h1 : SG X cl W e g) (h2 : SGs X cl W es k)
    (hW : ∀ cls d σ σ' H, W cls d σ H → W cls d σ' H)
    (hs : (assignEach (e :: es) X.env).map (·.2) = assign e X.env :: (assignEach es X.env).map (·.2) := by rfl) : SGs X cl W (e :: es) (gMore g k) := by
  obtain ⟨_, p, r⟩ := h1.ex
  obtain ⟨_, p2, r2⟩ := h2.ex
  refine ⟨_, pgs_cons p p2 hs, fun σ Hv H S ad env vs as Q re so rs q => ?_⟩
  cases rs with
  | nil => exact q.elim
  | @cons v a vs as ra rs =>
    refine ⟨v, vs, rfl, r σ Hv H S ad env v a _ re so ra (Pst.bind (k := fun env' S1 => k as env' S1) q |>.mono fun env1 S1 Hv1 ad1 H1 e1 p1 s1 q1 σ1 re1 => ?_)⟩
    refine r2 σ1 Hv1 H1 S1 ad1 env1 vs as Q re1 s1 (rs.mono e1 p1) ?_
    cases q2 : k as env1 S1 with
    | ok b S2 =>
      rw [q2] at q1
      exact q1
    | exc c ns vs S2 =>
      rw [q2] at q1
      exact fun Hv' ad' H' dd e p s x => hW _ _ _ _ _ (q1 Hv' ad' H' dd e p s x)
    | bad =>
      rw [q2] at q1
      exact q1.elim
theorem sg_tup {es : List Expr} {k : Nat} {n : Nat} {g : List A → Ev Env} (h : SGs X cl W es g) (hc : X.calm = true := by rfl) (hn : (assignEach es X.env).length = n := by rfl) (hst : (assignEach es X.env).findIdx? (·.1) = none := by rfl) : SG X cl W (.Tuple es k pos) (gTupE n g) := by
  obtain ⟨_, p, r⟩ := h.ex
  refine ⟨_, pg_tup hc p hn hst, fun σ Hv H S ad env v a Q re so ra q => ?_⟩
  unfold gTupE at q
  split at q
  · rename_i ds
    by_cases hl : ds.length = n
    · rw [if_pos hl] at q
      cases ra with
      | tup hq rs => exact ⟨_, _, rfl, ex_t so.ex hq, by rw [rs.length]; exact hl, r σ Hv H S ad env _ _ Q re so (RepAs.vals rs) q⟩
    · rw [if_neg hl] at q
      exact q.elim
  · exact q.elim
/-- target = e: a tuple of names, an item -/
theorem ss_asg {tg e : Expr} {f : Ev A} {g : A → Ev Env} (h : SE X cl W e f) (k : SG X cl W tg g) (hs : swapsWithSole [tg] e pos.line X.env = pure false := by rfl) (hw : swappedStores [tg] e X.env = pure none := by rfl) (h1 : (assignEach [tg] X.env).map (·.2) = [assign tg X.env] := by rfl) : SS X cl W (.Assign [tg] e pos) (sAsg f g) := by
  obtain ⟨_, p, r⟩ := h.ex
  obtain ⟨_, p2, r2⟩ := k.ex
  refine ⟨_, ps_asg p p2 hs hw h1, fun σ Hv H S ad env Dn re so q => ?_⟩
  refine r σ Hv H S ad env _ re so ((q.bind re).mono fun a S1 Hv1 ad1 H1 e1 p1 s1 q1 v1 r1 => ?_)
  refine r2 σ Hv1 H1 S1 ad1 env v1 a Dn.nx (re.mono e1 p1) s1 r1 ((q1.bind (re.mono e1 p1)).mono fun env2 S2 Hv2 ad2 H2 e2 p2 s2 q2 σ2 re2 => q2 σ2 Hv2 ad2 H2 (Ex.refl _) (Pre.refl _) s2 re2)
end

/-! ### defs and calls -/
def startE (n : Nat) (as : List A) : Env := as.map some ++ List.replicate (n - as.length) none
/-- what a def hands back -/
def kDef (S : Store) (o : OutS) : Out A := match o with
  | .ok (.nx _) S' => .ok (.val .non) (S'.take S.length)
  | .ok (.rt (.val d)) S' => .ok (.val d) (S'.take S.length)
  | .ok (.rt (.loc k)) S' => if k < S.length then .ok (.loc k) (S'.take S.length) else (match S'[k]? with
    | some (some c) => .ok (.loc S.length) (S'.take S.length ++ [some c])
    | _ => .bad)
  | .exc c ns vs _ S' => .exc c ns vs (S'.take S.length)
  | _ => .bad
/-- n slots, its body -/
def defF (n : Nat) (body : Sv) (as : List A) (S : Store) : Out A := kDef S (body (startE n as) S)
/-- the promise -/
def SpF (K : PySem.W.Frag) (cl : CL) (n : Nat) (g : List A → Store → Out A) : Sp := fun vs H Q E => vs.length = n ∧ ∃ Hv S ad as, RepAs K cl Hv ad vs as ∧ StOk K cl Hv H S ad ∧ Pst K cl (fun c d _ H' => E c d H') [] Hv ad (RA K cl Q) (g as S)
theorem Pre.take {l m : List Addr} {n : Nat} (h : Pre l m) (hn : l.length = n) : m.take n = l := by
  obtain ⟨r, rfl⟩ := h
  rw [← hn]
  simp
section
variable {P : Program} {w : World} {K : PySem.W.Frag} {mg : Str → Option Value} {base : Heap} {x qual : Str} {params : Arguments} {body : List Stmt} {scope : Scope} {dvs : List V} {kws : List (Str × V)} {f : Addr} {fd : FuncData} {cl : CL}
theorem start_rep {Hv : Hp} {ad : List Addr} {N : List Str} {vs : List V} {as : List A} (r : RepAs K cl Hv ad vs as) : RepEnv K cl Hv ad (L2.start N vs) (startE N.length as) := by
  refine ⟨by simp [L2.start, startE, r.length], fun i a e => ?_⟩
  unfold startE at e
  unfold L2.start
  by_cases hi : i < as.length
  · rw [List.getElem?_append_left (by simpa using hi), List.getElem?_map] at e
    have e2 : as[i]? = some a := by
      cases q : as[i]? with
      | none =>
        rw [q] at e
        cases e
      | some b =>
        rw [q] at e
        cases e
        rfl
    obtain ⟨v, h1, h2⟩ := r.get e2
    exact ⟨v, by rw [List.getElem?_append_left (by rw [List.length_map, r.length]; exact hi), List.getElem?_map, h1]; rfl, h2⟩
  · rw [List.getElem?_append_right (by simpa using hi), List.getElem?_replicate] at e
    split at e <;> cases e
/-- a def's promise where nothing is being shown (repr) around the call -/
structure FnG (P : Program) (w : World) (K : PySem.W.Frag) (mg : Str → Option Value) (base : Heap) (k : Nat) (f : Addr) (fd : FuncData) (ps : List Str) (sp : Sp) : Prop where
  len : ∀ vs H Q E, sp vs H Q E → vs.length = ps.length
  run : ∀ (A : Around) (outer : List PySem.Env) (s : Shared) (H : Hp) (args : Args) (us : List Value) (vs : List V) (Q : VK) (E : XK), A.guards = some [] → Room k A → Env0 P w K mg base A outer s H → BindsTo s fd args (ps.zip us) → Vals vs us → sp vs H Q E →
    codeAny (model P w) A (.call (.ref f) args) (CR (L2.CX P w) outer P w H s Q E) s
theorem FnG.mono {P : Program} {w : World} {K : PySem.W.Frag} {mg : Str → Option Value} {base : Heap} {j k : Nat} {f : Addr} {fd : FuncData} {ps : List Str} {sp : Sp} (F : FnG P w K mg base j f fd ps sp) (h : j ≤ k) : FnG P w K mg base k f fd ps sp :=
  ⟨F.len, fun A outer s H args us vs Q E hg hr => F.run A outer s H args us vs Q E hg (hr.mono h)⟩
theorem fnG_of {N ps : List Str} {k : Nat} {sp : Sp} (F : FunD K x qual params body scope dvs kws f fd) (S : FnScope N ps scope) (len : ∀ vs H Q E, sp vs H Q E → vs.length = ps.length)
    (hbody : ∀ (cdv : Value) (A : Around) (outer : List PySem.Env) (s : Shared) (H : Hp) (vs : List V) (Q : VK) (E : XK), A.guards = some [] → Room k (A.deeper (PyProof.Rows.envOfC qual scope s.heap.objs.size f cdv)) → sp vs H Q E →
      ∃ t, PSs (cxOf (L2.CX P w) P w K mg base N qual scope f cdv A outer s H E) body t ∧ t { nx := fun _ H' => Q .non H', rt := Q } (L2.start N vs) H) : FnG P w K mg base (k + 1) f fd ps sp := by
  obtain ⟨oc, od, dV, kV, doc, pm, an, cdv, ct, osl, rfl, lk, hcd, _, _⟩ := F.ex
  refine ⟨len, fun A outer s H args us vs Q E hg hr e0 hb r hsp => ?_⟩
  have hl := len _ _ _ _ hsp
  have KX : K.In s.heap := e0.mod.kin.keeps fun b o e => (e0.bs b o e).1
  have lim : s.heap.NoLimit := e0.mod.nolimit.keeps fun b o e => (e0.bs b o e).1
  have hkind : ∀ y ∈ ps.zip us, scope.names.lookup y.1 = some .local ∨ (scope.names.lookup y.1 = some .cell ∧ ((cellsFrom (s.heap.objs.size + 1) scope.names []).lookup y.1).isSome = true) := fun y hy =>
    (S.par y.1 (List.of_mem_zip (show (y.1, y.2) ∈ ps.zip us from hy)).1).elim .inl fun q => .inr ⟨q, PySem.W.cellsFrom_some _ _ _ (.inl q)⟩
  refine codeAny_call_function hr.depth (KX _ _ lk) rfl S.co S.gen rfl (PySem.W.codeRec_of KX hcd) (hb _ _ _ _ (wpAny_newFunctionEnv_cells S.kind hkind fun env he s1 z => ?_))
  subst he
  refine ⟨lim.keeps z.toInCall.keep, codeAny_func ?_⟩
  obtain ⟨t, ht, hq⟩ := hbody cdv A outer s H vs Q E hg (hr.deeper _) hsp
  refine wpAny_mono (ht.run [] s1 _ H _ (inv_start S hr.hd e0 hl r z) hq) (fun fl s' hs => ?_) fun e s' hs => hs
  cases fl with
  | ret u =>
    obtain ⟨v, σ', H', J, rv, q⟩ := hs
    exact ⟨v, H', J.os, J.bare, J.base, J.hok, rv, q⟩
  | next =>
    obtain ⟨σ', H', J, q⟩ := hs
    exact ⟨.non, H', J.os, J.bare, J.base, J.hok, rfl, q⟩
  | brk => exact hs.elim fun _ ⟨_, _, q⟩ => q.elim
  | cont => exact hs.elim fun _ ⟨_, _, q⟩ => q.elim
/-- what a body may lean on -/
structure Bx (X : Cx) (W : WX) : Prop where
  tk : Takes X W
  po : PassesOwn (model X.prog X.w) X.A X.env X.xe
  gd : X.A.guards = some []
theorem def_pst {Hv H : Hp} {St : Store} {ad : List Addr} {Q : VK} {E : XK} {o : OutS} (so : StOk K cl Hv H St ad) (q : Pst K cl (fun c d _ H' => E c d H') [] Hv ad (RA K cl Q) (kDef St o)) :
    PstS K cl (fun c d _ H' => E c d H') Hv ad { nx := fun _ H' => Q .non H', rt := Q } o := by
  have hlen := so.len
  unfold kDef at q
  cases e : o with
  | ok fl S1 =>
    rw [e] at q
    cases fl with
    | nx env1 =>
      intro σ1 Hv1 ad1 H1 e1 p1 s1 re1
      have s2 := s1.take St.length (hlen ▸ so.ka.len)
      rw [p1.take hlen] at s2
      exact q Hv1 ad H1 e1 (Pre.refl _) s2 .non .non
    | rt a =>
      intro v Hv1 ad1 H1 e1 p1 s1 r1
      have s2 := s1.take St.length (hlen ▸ so.ka.len)
      rw [p1.take hlen] at s2
      cases a with
      | val d => exact q Hv1 ad H1 e1 (Pre.refl _) s2 v r1
      | fv k => exact q.elim
      | loc m =>
        obtain ⟨y, rfl, hy⟩ := r1
        dsimp only at q
        by_cases hm : m < St.length
        · rw [if_pos hm] at q
          refine q Hv1 ad H1 e1 (Pre.refl _) s2 (.ref y) ⟨y, rfl, ?_⟩
          obtain ⟨z, rfl⟩ := p1
          rw [List.getElem?_append_left (by rw [hlen]; exact hm)] at hy
          exact hy
        · rw [if_neg hm] at q
          split at q
          · rename_i c ec
            obtain ⟨y', h1, h2, h3⟩ := s1.at_ m c ec
            rw [hy] at h1
            cases h1
            have s3 : StOk K cl Hv1 H1 (S1.take St.length ++ [some c]) (ad ++ [y]) := by
              have live : ∀ (n : Nat) (x : Con) (b : Addr), (S1.take St.length)[n]? = some (some x) → ad[n]? = some b → b ≠ y := fun n x b q1 q2 z => by
                have hn : n < St.length := by
                  have := (List.getElem?_eq_some_iff.mp q2).1
                  omega
                rw [List.getElem?_take, if_pos hn] at q1
                have := s1.inj n m x c y q1 ec (by rw [← z]; exact p1.get q2) hy
                omega
              have tl : (S1.take St.length).length = ad.length := s2.len.symm
              refine ⟨s2.ex, by rw [List.length_append, List.length_append, s2.len]; rfl, fun n x q1 => ?_, fun n n' x x' b q1 q2 a1 a2 => ?_, s2.sm, s2.tb, s2.tn, s2.kn, s2.ka.trans ⟨[y], rfl⟩⟩
              · by_cases hn : n < ad.length
                · rw [List.getElem?_append_left (by rw [tl]; exact hn)] at q1
                  obtain ⟨b, g1, g2, g3⟩ := s2.at_ n x q1
                  exact ⟨b, (Pre.get ⟨[y], rfl⟩ g1), g2, g3.mono (Ex.refl _) ⟨[y], rfl⟩⟩
                · rw [List.getElem?_append_right (by rw [tl]; omega), tl] at q1
                  have hn' : n - ad.length = 0 := by
                    have := (List.getElem?_eq_some_iff.mp q1).1
                    simp at this
                    omega
                  rw [hn'] at q1
                  cases q1
                  refine ⟨y, by rw [List.getElem?_append_right (by omega), hn']; rfl, h2, ?_⟩
                  cases c with
                  | lst _ => exact h3
                  | dic _ _ => exact h3
                  | dit _ _ => exact h3
                  | ins _ _ _ => exact h3
              · have out : ∀ (i : Nat) (z : Con), (S1.take St.length ++ [some c])[i]? = some (some z) → (ad ++ [y])[i]? = some b → (i < ad.length ∧ (S1.take St.length)[i]? = some (some z) ∧ ad[i]? = some b) ∨ (i = ad.length ∧ b = y) := fun i z g1 g2 => by
                  by_cases hi : i < ad.length
                  · rw [List.getElem?_append_left (by rw [tl]; exact hi)] at g1
                    rw [List.getElem?_append_left hi] at g2
                    exact .inl ⟨hi, g1, g2⟩
                  · have := (List.getElem?_eq_some_iff.mp g2).1
                    simp at this
                    have hi' : i = ad.length := by omega
                    subst hi'
                    rw [List.getElem?_append_right (Nat.le_refl _)] at g2
                    simp at g2
                    exact .inr ⟨rfl, g2.symm⟩
                rcases out n x q1 a1 with ⟨_, g1, g2⟩ | ⟨g1, g2⟩
                · rcases out n' x' q2 a2 with ⟨_, g3, g4⟩ | ⟨g3, g4⟩
                  · exact s2.inj n n' x x' b g1 g3 g2 g4
                  · exact absurd g4 (live n x b g1 g2)
                · rcases out n' x' q2 a2 with ⟨_, g3, g4⟩ | ⟨g3, g4⟩
                  · exact absurd g2 (live n' x' b g3 g4)
                  · rw [g1, g3]
            exact q Hv1 (ad ++ [y]) H1 e1 ⟨[y], rfl⟩ s3 (.ref y) ⟨y, rfl, by rw [← hlen]; simp⟩
          · exact q.elim
    | bk env1 => exact q.elim
    | ct env1 => exact q.elim
  | exc c ns vs' env1 S1 =>
    rw [e] at q
    intro σ1 Hv1 ad1 H1 dd e1 p1 s1 re1 x1
    have s2 := s1.take St.length (hlen ▸ so.ka.len)
    rw [p1.take hlen] at s2
    exact q Hv1 ad H1 dd e1 (Pre.refl _) s2 x1
  | bad =>
    rw [e] at q
    exact q.elim
/-- THE RULE for a def -/
theorem fn_def {N ps : List Str} {k : Nat} {fb : Sv} (F : FunD K x qual params body scope dvs kws f fd) (S : FnScope N ps scope)
    (hb : ∀ (cdv : Value) (A : Around) (outer : List PySem.Env) (s : Shared) (H : Hp) (E : XK), Room k (A.deeper (PyProof.Rows.envOfC qual scope s.heap.objs.size f cdv)) → Bx (cxOf (L2.CX P w) P w K mg base N qual scope f cdv A outer s H E) (fun c d _ H' => E c d H') →
      SSs (cxOf (L2.CX P w) P w K mg base N qual scope f cdv A outer s H E) cl (fun c d _ H' => E c d H') body fb) :
    FnG P w K mg base (k + 1) f fd ps (SpF K cl ps.length (defF N.length fb)) := by
  refine fnG_of F S (fun vs H Q E h => h.1) fun cdv A outer s H vs Q E hgd hr h => ?_
  obtain ⟨hl, Hv, St, ad, as, rs, so, q⟩ := h
  have hx := hb cdv A outer s H E hr ⟨takes_of rfl rfl rfl rfl, passes_of rfl, hgd⟩
  obtain ⟨t, p, r⟩ := hx.ex
  exact ⟨t, p, r _ Hv H St ad (startE N.length as) _ (start_rep rs) so (def_pst so q)⟩
end
section
variable {X : Cx} {cl : CL} {W : WX} {k n : Nat} {f C : Addr} {fd : FuncData} {ps : List Str} {g : List A → Store → Out A} {dvs : List V} {dfl : List A} {ds : List Value} {x m : Str} {p pos apos : Pos} {e o : Expr} {es : List Expr}
theorem rd_fn {σ : St} {Hv H : Hp} {S : Store} {ad : List Addr} {vs : List V} {as : List A} {Q : VK} (hn : as.length = n) (so : StOk X.K cl Hv H S ad) (r : RepAs X.K cl Hv ad vs as) (q : Pst X.K cl W σ Hv ad (RA X.K cl Q) (g as S)) : SpF X.K cl n g vs H Q (WE W σ) := by
  refine ⟨by rw [r.length]; exact hn, Hv, S, ad, as, r, so, ?_⟩
  cases e : g as S with
  | ok a S1 =>
    rw [e] at q
    exact q
  | exc c ns vs S1 =>
    rw [e] at q
    exact q
  | bad =>
    rw [e] at q
    exact q
/-- f with its defaults behind; the number of the arguments is looked at -/
def callG (n : Nat) (g : List A → Store → Out A) (dfl : List A) (as : List A) (S : Store) : Out A := if (as ++ dfl).length = n then g (as ++ dfl) S else .bad
theorem run_fnG {pins : List (Addr × Obj)} {σ : St} {H : Hp} {s : Shared} {Q : VK} {us : List Value} {vs : List V} {sp : Sp} (F : FnG X.prog X.w X.K X.mg X.base k f fd ps sp) (B : Bx X W) (hr : Room k X.A) (hb : Binds X.K fd ps ds) (hd : Vals dvs ds)
    (I : Inv X pins σ H s) (r : Vals vs us) (h : sp (vs ++ dvs) H Q (WE W σ)) : wpAny (model X.prog X.w) X.A (call (.ref f) us) (EP X pins σ Q) X.xe s := by
  have r2 : Vals (vs ++ dvs) (us ++ ds) := r.append hd
  have hl : (us ++ ds).length = ps.length := r2.length.symm.trans (F.len _ _ _ _ h)
  refine wpAny_call (codeAny_mono (F.run X.A X.stack s H ⟨us, []⟩ (us ++ ds) (vs ++ dvs) Q (WE W σ) B.gd hr I.env0 (hb s us I.kIn hl) r2 h) fun z s' hq => ?_)
  match z, hq with
  | .error e, hq => exact passAt B.tk σ pins H s e s' I hq
  | .ok (.ret u), hq => exact I.after hq
theorem se_call {fa : Ev (List A)} (F : FnG X.prog X.w X.K X.mg X.base k f fd ps (SpF X.K cl n g)) (B : Bx X W) (hr : Room k X.A) (hm : X.mg x = some (.ref f)) (hk : PySem.W.keepIn X.K (.ref f) = true) (hb : Binds X.K fd ps ds) (hd : Vals dvs ds) (hdf : ∀ Hv ad, RepAs X.K cl Hv ad dvs dfl)
    (ha : SA X cl W (e :: es) fa) (hg : Gl X x := by rfl) (hdb : (x == ("__debug__" : Str)) = false := by decide) (he : starEach (e :: es) X.env = (false, eval e X.env) :: starEach es X.env := by rfl) (hpl : (backTo pos (starEach es X.env)).any (·.1) = false := by rfl) :
    SE X cl W (.Call (.Name x p) (e :: es) [] pos) (eApp (callG n g dfl) fa) := by
  obtain ⟨ta, pa, ra⟩ := ha.ex
  refine ⟨tCallSD (SpF X.K cl n g) dvs (WE W) ta, ⟨fun pins s σ H Q I h => ?_⟩, fun σ Hv H S ad env Q re so q => ?_⟩
  · refine wpAny_Call_Name_kw (ld_glob I hg hm ?_ hdb)
    exact PySem.W.callWith_K (h₀ := X.base) I.ok.mod.kin hk (thn (pa.run pos pins s σ H _ I h) fun us s1 ⟨vs, H1, I1, r, q⟩ => ⟨I1.kIn, run_fnG F B hr hb hd I1 r q⟩) he hpl
  refine ra σ Hv H S ad env _ re so (q.bind.mono fun as S1 Hv1 ad1 H1 e1 p1 s1 q1 vs r1 => ?_)
  unfold callG at q1
  by_cases hn : (as ++ dfl).length = n
  · rw [if_pos hn] at q1
    exact rd_fn hn s1 (r1.append (hdf Hv1 ad1)) q1
  · rw [if_neg hn] at q1
    exact q1.elim
theorem se_call0 (F : FnG X.prog X.w X.K X.mg X.base k f fd ps (SpF X.K cl n g)) (B : Bx X W) (hr : Room k X.A) (hm : X.mg x = some (.ref f)) (hk : PySem.W.keepIn X.K (.ref f) = true) (hb : Binds X.K fd ps ds) (hd : Vals dvs ds) (hdf : ∀ Hv ad, RepAs X.K cl Hv ad dvs dfl)
    (hg : Gl X x := by rfl) (hdb : (x == ("__debug__" : Str)) = false := by decide) : SE X cl W (.Call (.Name x p) [] [] pos) (eApp (callG n g dfl) eNil) := by
  refine ⟨tCallSD (SpF X.K cl n g) dvs (WE W) tNil, ⟨fun pins s σ H Q I h => ?_⟩, fun σ Hv H S ad env Q re so q => ?_⟩
  · refine wpAny_Call_Name_kw (ld_glob I hg hm ?_ hdb)
    exact PySem.W.callWith_K0 I.kIn hk (run_fnG (us := []) F B hr hb hd I .nil h)
  · have q1 : Pst X.K cl W σ Hv ad (RA X.K cl Q) (callG n g dfl [] S) := q
    unfold callG at q1
    by_cases hn : (([] : List A) ++ dfl).length = n
    · rw [if_pos hn] at q1
      exact rd_fn hn so (RepAs.append .nil (hdf Hv ad)) q1
    · rw [if_neg hn] at q1
      exact q1.elim
end
end R


namespace R
open PySem L2

/-- the walked thing yields these data -/
def WalkOk (K : PySem.W.Frag) (cl : CL) (J : It) (ds : List D) (Hv0 : Hp) : Prop :=
  ∀ (i : Nat) (Hv H : Hp), Ex Hv0 Hv → Ex Hv H → (ds.length ≤ i → J.stop i H) ∧ ∀ d, ds[i]? = some d → J.go i H ∧ ∀ x H', J.yld i H x H' → ∀ S ad, StOk K cl Hv H S ad → ∃ Hv', Ex Hv Hv' ∧ StOk K cl Hv' H' S ad ∧ Rep K cl Hv' x d
def RdI (K : PySem.W.Frag) (cl : CL) (W : WX) (wi : TI) (f : Ev (List D)) : Prop := ∀ (σ : St) (Hv H : Hp) (S : Store) (ad : List Addr) (env : Env) (R : It → Hp → Prop), RepEnv K cl Hv ad σ env → StOk K cl Hv H S ad →
  Pst K cl W σ Hv ad (fun ds _ Hv' _ H' => ∀ J, WalkOk K cl J ds Hv' → R J H') (f env S) → wi σ H R
structure SI (X : Cx) (cl : CL) (W : WX) (tg iter : Expr) (f : Ev (List D)) : Prop where
  ex : ∃ wi, PI X tg iter wi ∧ RdI X.K cl W wi f

/-! ### evaluators -/
/-- the items of a list, a tuple -/
def items? : A → Option (List D)
  | .val (.lst ds) => some ds
  | .val (.tup ds) => some ds
  | _ => none
def iSeq (f : Ev A) : Ev (List D) := fun env S => (f env S).bind fun a S1 => match items? a with
  | some ds => .ok ds S1
  | none => .bad
def rangeD (lo : Int) (n : Nat) : List D := (List.range n).map fun i => .int (lo + (i : Nat))
def iRange1 (f : Ev (List A)) : Ev (List D) := fun env S => (f env S).bind fun as S1 => match as with
  | [.val (.int n)] => if -100000 < n ∧ n < 100000 then .ok (rangeD 0 n.toNat) S1 else .bad
  | _ => .bad
def iRange2 (f : Ev (List A)) : Ev (List D) := fun env S => (f env S).bind fun as S1 => match as with
  | [.val (.int m), .val (.int n)] => if -100000 < m ∧ m < 100000 ∧ n < 100000 ∧ -100000 < n then .ok (rangeD m (n - m).toNat) S1 else .bad
  | _ => .bad
def enumD (ds : List D) : List D := (List.range ds.length).zipWith (fun i d => .tup [.int (i : Nat), d]) ds
def iEnumE (f : Ev (List A)) : Ev (List D) := fun env S => (f env S).bind fun as S1 => match as with
  | [.val (.lst ds)] => .ok (enumD ds) S1
  | _ => .bad
def forD (g : A → Ev Env) (body : Sv) : List D → Sv
  | [], env, S => .ok (.nx env) S
  | d :: r, env, S => (g (.val d) env S).bindS env fun env1 S1 => match body env1 S1 with
    | .ok (.nx env2) S2 => forD g body r env2 S2
    | .ok (.ct env2) S2 => forD g body r env2 S2
    | .ok (.bk env2) S2 => .ok (.nx env2) S2
    | .ok (.rt a) S2 => .ok (.rt a) S2
    | .exc c ns vs env2 S2 => .exc c ns vs env2 S2
    | .bad => .bad
def sFor (src : Ev (List D)) (g : A → Ev Env) (body : Sv) : Sv := fun env S => (src env S).bindS env fun ds S1 => forD g body ds env S1
/-- a while, at most n turns -/
def whileD (c : Ev Bool) (body : Sv) : Nat → Sv
  | 0, _, _ => .bad
  | n + 1, env, S => (c env S).bindS env fun b S1 => match b with
    | false => .ok (.nx env) S1
    | true => match body env S1 with
      | .ok (.nx env2) S2 => whileD c body n env2 S2
      | .ok (.ct env2) S2 => whileD c body n env2 S2
      | .ok (.bk env2) S2 => .ok (.nx env2) S2
      | .ok (.rt a) S2 => .ok (.rt a) S2
      | .exc c ns vs env2 S2 => .exc c ns vs env2 S2
      | .bad => .bad

section
variable {X : Cx} {cl : CL} {W : WX} {tg : Expr} {pos p : Pos}
theorem walk_list {K : PySem.W.Frag} {a : Addr} {xs : List V} {ds : List D} {Hv : Hp} (h : SqL K Hv a xs) (r : Reps K cl Hv xs ds) : WalkOk K cl (Itl K a) ds Hv := fun i Hv1 H1 e1 e2 => by
  have h1 : SqL K H1 a xs := ex_l (e1.trans e2) h
  refine ⟨fun hi => ⟨xs, h1, by rw [r.length]; exact hi⟩, fun d hd => ?_⟩
  obtain ⟨x, hx, rx⟩ := r.get hd
  refine ⟨⟨xs, x, h1, hx⟩, fun y H' hy S ad so => ?_⟩
  obtain ⟨rfl, hy⟩ := hy
  have e := hy xs h1
  rw [hx] at e
  cases e
  exact ⟨Hv1, Ex.refl _, so, rx.mono e1⟩
theorem walk_tup {K : PySem.W.Frag} {a : Addr} {xs : List V} {ds : List D} {Hv : Hp} (h : SqT K Hv a xs) (r : Reps K cl Hv xs ds) : WalkOk K cl (Itt K a) ds Hv := fun i Hv1 H1 e1 e2 => by
  have h1 : SqT K H1 a xs := ex_t (e1.trans e2) h
  refine ⟨fun hi => ⟨xs, h1, by rw [r.length]; exact hi⟩, fun d hd => ?_⟩
  obtain ⟨x, hx, rx⟩ := r.get hd
  refine ⟨⟨xs, x, h1, hx⟩, fun y H' hy S ad so => ?_⟩
  obtain ⟨rfl, hy⟩ := hy
  have e := hy xs h1
  rw [hx] at e
  cases e
  exact ⟨Hv1, Ex.refl _, so, rx.mono e1⟩
theorem walk_range {K : PySem.W.Frag} {lo : Int} {n : Nat} {Hv : Hp} : WalkOk K cl (Itr lo n) (rangeD lo n) Hv := fun i Hv1 H1 e1 e2 => by
  refine ⟨fun hi => by show n ≤ i; simpa [rangeD] using hi, fun d hd => ?_⟩
  have hi : i < n := by
    have := (List.getElem?_eq_some_iff.mp hd).1
    simpa [rangeD] using this
  have ed : d = .int (lo + (i : Nat)) := by
    unfold rangeD at hd
    rw [List.getElem?_map, List.getElem?_range hi] at hd
    cases hd
    rfl
  subst ed
  refine ⟨hi, fun y H' hy S ad so => ?_⟩
  obtain ⟨rfl, rfl⟩ := hy
  exact ⟨Hv1, Ex.refl _, so, .int⟩
theorem pi_or {iter : Expr} {w1 w2 : TI} (h1 : PI X tg iter w1) (h2 : PI X tg iter w2) : PI X tg iter (fun σ H R => w1 σ H R ∨ w2 σ H R) := ⟨fun pins s σ H R I h => h.elim (h1.run pins s σ H R I) (h2.run pins s σ H R I)⟩
theorem si_seq {e : Expr} {f : Ev A} (h : SE X cl W e f) : SI X cl W tg e (iSeq f) := by
  obtain ⟨t, pe, r⟩ := h.ex
  refine ⟨_, pi_or (pi_list pe) (pi_tup pe), fun σ Hv H S ad env R re so q => ?_⟩
  unfold iSeq at q
  cases ef : f env S with
  | ok a S1 =>
    rw [ef] at q
    have q' : Pst X.K cl W σ Hv ad _ (match items? a with | some ds => Out.ok ds S1 | none => .bad) := q
    cases a with
    | loc n => exact q'.elim
    | fv k => exact q'.elim
    | val d =>
      cases d with
      | lst ds => exact .inl (r σ Hv H S ad env _ re so (by
          rw [ef]
          intro Hv1 ad1 H1 e1 p1 s1 v rv
          cases rv with
          | lst hl rs => exact ⟨_, rfl, ⟨_, ex_l s1.ex (.inl (.inl hl))⟩, q' Hv1 ad1 H1 e1 p1 s1 _ (walk_list (.inl (.inl hl)) rs)⟩))
      | tup ds => exact .inr (r σ Hv H S ad env _ re so (by
          rw [ef]
          intro Hv1 ad1 H1 e1 p1 s1 v rv
          cases rv with
          | tup hl rs => exact ⟨_, rfl, ⟨_, ex_t s1.ex hl⟩, q' Hv1 ad1 H1 e1 p1 s1 _ (walk_tup hl rs)⟩))
      | _ => exact q'.elim
  | exc c ns vs S1 =>
    rw [ef] at q
    exact .inl (r σ Hv H S ad env _ re so (by rw [ef]; exact q))
  | bad =>
    rw [ef] at q
    exact q.elim
theorem si_range1 {a : Expr} {f : Ev (List A)} (h : SA X cl W [a] f) (hm : X.mg "range" = none) (hg : Gl X "range" := by rfl) (hs : starEach [a] X.env = [(false, eval a X.env)] := by rfl) : SI X cl W tg (.Call (.Name "range" p) [a] [] pos) (iRange1 f) := by
  obtain ⟨t, pa, r⟩ := h.ex
  refine ⟨_, pi_range1 hg hm pa hs, fun σ Hv H S ad env R re so q => ?_⟩
  refine r σ Hv H S ad env _ re so (q.bind.mono fun as S1 Hv1 ad1 H1 e1 p1 s1 q1 vs rs => ?_)
  split at q1
  · rename_i n
    by_cases hn : -100000 < n ∧ n < 100000
    · rw [if_pos hn] at q1
      obtain ⟨v, rfl, rv⟩ := rep1 rs
      cases rv
      exact ⟨n, rfl, by omega, by omega, q1.here s1 _ walk_range⟩
    · rw [if_neg hn] at q1
      exact q1.elim
  · exact q1.elim
theorem si_range2 {a b : Expr} {f : Ev (List A)} (h : SA X cl W [a, b] f) (hm : X.mg "range" = none) (hg : Gl X "range" := by rfl) (hs : starEach [a, b] X.env = [(false, eval a X.env), (false, eval b X.env)] := by rfl) (hs2 : starEach [b] X.env = [(false, eval b X.env)] := by rfl) : SI X cl W tg (.Call (.Name "range" p) [a, b] [] pos) (iRange2 f) := by
  obtain ⟨t, pa, r⟩ := h.ex
  refine ⟨_, pi_range2 hg hm pa hs hs2, fun σ Hv H S ad env R re so q => ?_⟩
  refine r σ Hv H S ad env _ re so (q.bind.mono fun as S1 Hv1 ad1 H1 e1 p1 s1 q1 vs rs => ?_)
  split at q1
  · rename_i m n
    by_cases hn : -100000 < m ∧ m < 100000 ∧ n < 100000 ∧ -100000 < n
    · rw [if_pos hn] at q1
      obtain ⟨v, w, rfl, rv, rw'⟩ := rep2 rs
      cases rv
      cases rw'
      exact ⟨m, n, rfl, ⟨by omega, by omega, by omega, by omega⟩, q1.here s1 _ walk_range⟩
    · rw [if_neg hn] at q1
      exact q1.elim
  · exact q1.elim
theorem walk_enum {K : PySem.W.Frag} {a : Addr} {xs : List V} {ds : List D} {Hv : Hp} (h : SqL K Hv a xs) (r : Reps K cl Hv xs ds) : WalkOk K cl (Ite K a) (enumD ds) Hv := fun i Hv1 H1 e1 e2 => by
  have h1 : SqL K H1 a xs := ex_l (e1.trans e2) h
  have hl : (enumD ds).length = ds.length := by simp [enumD]
  refine ⟨fun hi => ⟨xs, h1, by rw [r.length, ← hl]; exact hi⟩, fun d hd => ?_⟩
  have hi : i < ds.length := by
    have := (List.getElem?_eq_some_iff.mp hd).1
    omega
  obtain ⟨d0, hd0⟩ : ∃ d0, ds[i]? = some d0 := ⟨ds[i], List.getElem?_eq_getElem hi⟩
  have ed : d = .tup [.int (i : Nat), d0] := by
    unfold enumD at hd
    rw [List.getElem?_zipWith, List.getElem?_range hi, hd0] at hd
    cases hd
    rfl
  subst ed
  obtain ⟨x, hx, rx⟩ := r.get hd0
  refine ⟨⟨xs, x, h1, hx⟩, fun y H' hy S ad so => ?_⟩
  obtain ⟨T, z, rfl, hT, rfl, hz⟩ := hy
  have e := hz xs h1
  rw [hx] at e
  cases e
  exact ⟨upd Hv1 T _, Ex.new (so.ex.nn hT), so.new hT, .tup (.inl (.inl upd_same)) (.cons .int (.cons (rx.mono (e1.trans (Ex.new (so.ex.nn hT)))) .nil))⟩
theorem si_enum {e : Expr} {elts : List Expr} {kk : Nat} {tpos : Pos} {f : Ev (List A)} (h : SA X cl W [e] f) (hm : X.mg "enumerate" = none) (hg : Gl X "enumerate" := by rfl) (hs : starEach [e] X.env = [(false, eval e X.env)] := by rfl) : SI X cl W (.Tuple elts kk tpos) (.Call (.Name "enumerate" p) [e] [] pos) (iEnumE f) := by
  obtain ⟨t, pa, r⟩ := h.ex
  refine ⟨_, pi_enum hg hm pa hs, fun σ Hv H S ad env R re so q => ?_⟩
  refine r σ Hv H S ad env _ re so (q.bind.mono fun as S1 Hv1 ad1 H1 e1 p1 s1 q1 vs rs => ?_)
  split at q1
  · obtain ⟨v, rfl, rv⟩ := rep1 rs
    cases rv with
    | lst hl rs => exact ⟨_, _, rfl, ex_l s1.ex (.inl (.inl hl)), q1.here s1 _ (walk_enum (.inl (.inl hl)) rs)⟩
  · exact q1.elim

/-! ### for -/
theorem rd_for {wi : TI} {g : TG} {tb : TS} {src : Ev (List D)} {gE : A → Ev Env} {fb : Sv} (hi : RdI X.K cl W wi src) (hg : RdG X.K cl W g gE) (hb : RdS X.K cl W tb fb) : RdS X.K cl W (tFor wi g tb) (sFor src gE fb) := fun σ Hv H S ad env Dn re so q => by
  refine hi σ Hv H S ad env _ re so ((q.bind re).mono fun ds S1 Hv1 ad1 H1 e1 p1 s1 q1 J wk => ?_)
  refine ⟨fun i m σ' H' => m = ds.length - i ∧ i ≤ ds.length ∧ ∃ Hv' S' ad' env', Ex Hv1 Hv' ∧ StOk X.K cl Hv' H' S' ad' ∧ RepEnv X.K cl Hv' ad' σ' env' ∧ PstS X.K cl W Hv' ad' Dn (forD gE fb (ds.drop i) env' S'),
    ⟨ds.length, by omega, Nat.zero_le _, Hv1, S1, ad1, env, Ex.refl _, s1, re.mono e1 p1, q1⟩, ?_⟩
  rintro i m σ2 H2 ⟨rfl, hi, Hv2, S2, ad2, env2, e2, s2, re2, q2⟩
  by_cases hlt : i < ds.length
  · obtain ⟨d, hd⟩ : ∃ d, ds[i]? = some d := ⟨ds[i], List.getElem?_eq_getElem hlt⟩
    obtain ⟨go, yl⟩ := (wk i Hv2 H2 e2 s2.ex).2 d hd
    have edrop : ds.drop i = d :: ds.drop (i + 1) := by
      rw [List.drop_eq_getElem_cons hlt]
      congr 1
      rw [List.getElem?_eq_getElem hlt] at hd
      exact Option.some.inj hd
    rw [edrop] at q2
    refine .inr ⟨go, fun σ' H' => ∃ Hv' S' ad' env', Ex Hv1 Hv' ∧ StOk X.K cl Hv' H' S' ad' ∧ RepEnv X.K cl Hv' ad' σ' env' ∧ PstS X.K cl W Hv' ad' Dn (forD gE fb (ds.drop (i + 1)) env' S'),
      fun σ' H' z => ⟨ds.length - (i + 1), by omega, rfl, hlt, z⟩, fun x H' hy => ?_⟩
    obtain ⟨Hv3, e3, s3, r3⟩ := yl x H' hy S2 ad2 s2
    have q3 := (q2.up e3 (Pre.refl _)).bind (re2.mono e3 (Pre.refl _))
    refine hg σ2 Hv3 H' S2 ad2 env2 x (.val d) _ (re2.mono e3 (Pre.refl _)) s3 r3 (q3.mono fun env4 S4 Hv4 ad4 H4 e4 p4 s4 q4 σ4 re4 => ?_)
    refine hb σ4 Hv4 H4 S4 ad4 env4 _ re4 s4 ?_
    have e14 : Ex Hv1 Hv4 := e2.trans (e3.trans e4)
    cases eb : fb env4 S4 with
    | ok fl S5 =>
      rw [eb] at q4
      cases fl with
      | nx env5 => exact fun σ5 Hv5 ad5 H5 e5 p5 s5 re5 => ⟨Hv5, S5, ad5, env5, e14.trans e5, s5, re5, PstS.up e5 p5 q4⟩
      | ct env5 => exact fun σ5 Hv5 ad5 H5 e5 p5 s5 re5 => ⟨Hv5, S5, ad5, env5, e14.trans e5, s5, re5, PstS.up e5 p5 q4⟩
      | bk env5 => exact q4
      | rt a => exact q4
    | exc c ns vs env5 S5 =>
      rw [eb] at q4
      exact q4
    | bad =>
      rw [eb] at q4
      exact q4
  · refine .inl ⟨(wk i Hv2 H2 e2 s2.ex).1 (by omega), ?_⟩
    rw [List.drop_eq_nil_of_le (by omega)] at q2
    exact q2 σ2 Hv2 ad2 H2 (Ex.refl _) (Pre.refl _) s2 re2
theorem ss_for {iter : Expr} {body : List Stmt} {src : Ev (List D)} {g : A → Ev Env} {fb : Sv} (B : Bx X W) (hi : SI X cl W tg iter src) (hg : SG X cl W tg g) (hb : SSs X cl W body fb) (hc : X.calm = true := by rfl) (hs : ∀ x, foldedSetIterable iter X.env x = pure x := by intro _; rfl) : SS X cl W (.For tg iter body [] pos) (sFor src g fb) :=
  let ⟨_, p1, r1⟩ := hi.ex
  let ⟨_, p2, r2⟩ := hg.ex
  let ⟨_, p3, r3⟩ := hb.ex
  ⟨_, ps_for B.po hc p1 p2 p3 hs, rd_for r1 r2 r3⟩

/-! ### while -/
theorem ss_while (n : Nat) {c : Expr} {body : List Stmt} {fc : Ev Bool} {fb : Sv} (B : Bx X W) (hc : ST X cl W c fc) (hb : SSs X cl W body fb) : SS X cl W (.While c body [] pos) (whileD fc fb n) := by
  obtain ⟨_, p1, r1⟩ := hc.ex
  obtain ⟨_, p2, r2⟩ := hb.ex
  refine ⟨_, ps_while B.po p1 p2, fun σ Hv H S ad env Dn re so q => ?_⟩
  refine ⟨fun m σ' H' => ∃ Hv' S' ad' env', Ex Hv Hv' ∧ StOk X.K cl Hv' H' S' ad' ∧ RepEnv X.K cl Hv' ad' σ' env' ∧ PstS X.K cl W Hv' ad' Dn (whileD fc fb m env' S'), ⟨n, Hv, S, ad, env, Ex.refl _, so, re, q⟩, ?_⟩
  rintro m σ1 H1 ⟨Hv1, S1, ad1, env1, e1, s1, re1, q1⟩
  cases m with
  | zero => exact q1.elim
  | succ m =>
    refine r1 σ1 Hv1 H1 S1 ad1 env1 _ re1 s1 ((PstS.bind re1 q1).mono fun b S2 Hv2 ad2 H2 e2 p2 s2 q2 => ?_)
    cases b with
    | false => exact q2 σ1 Hv2 ad2 H2 (Ex.refl _) (Pre.refl _) s2 (re1.mono e2 p2)
    | true =>
      refine ⟨fun σ' H' => ∃ Hv' S' ad' env', Ex Hv Hv' ∧ StOk X.K cl Hv' H' S' ad' ∧ RepEnv X.K cl Hv' ad' σ' env' ∧ PstS X.K cl W Hv' ad' Dn (whileD fc fb m env' S'), fun σ' H' z => ⟨m, Nat.lt_succ_self m, z⟩, ?_⟩
      refine r2 σ1 Hv2 H2 S2 ad2 env1 _ (re1.mono e2 p2) s2 ?_
      have e02 := e1.trans e2
      dsimp only at q2
      cases eb : fb env1 S2 with
      | ok fl S5 =>
        rw [eb] at q2
        cases fl with
        | nx env5 => exact fun σ5 Hv5 ad5 H5 e5 p5 s5 re5 => ⟨Hv5, S5, ad5, env5, e02.trans e5, s5, re5, PstS.up e5 p5 q2⟩
        | ct env5 => exact fun σ5 Hv5 ad5 H5 e5 p5 s5 re5 => ⟨Hv5, S5, ad5, env5, e02.trans e5, s5, re5, PstS.up e5 p5 q2⟩
        | bk env5 => exact q2
        | rt a => exact q2
      | exc c ns vs env5 S5 =>
        rw [eb] at q2
        exact q2
      | bad =>
        rw [eb] at q2
        exact q2
end
end R


namespace R
open PySem L2

/-! ### the canonical readings -/
section
variable (K : PySem.W.Frag) (cl : CL) (W : WX)
def cE (f : Ev A) : TE := fun σ H Q => ∃ Hv S ad env, RepEnv K cl Hv ad σ env ∧ StOk K cl Hv H S ad ∧ Pst K cl W σ Hv ad (RA K cl Q) (f env S)
def cT (f : Ev Bool) : TT := fun σ H Q => ∃ Hv S ad env, RepEnv K cl Hv ad σ env ∧ StOk K cl Hv H S ad ∧ Pst K cl W σ Hv ad (RB Q) (f env S)
def cI (f : Ev (List D)) : TI := fun σ H R => ∃ Hv S ad env, RepEnv K cl Hv ad σ env ∧ StOk K cl Hv H S ad ∧ Pst K cl W σ Hv ad (fun ds _ Hv' _ H' => ∀ J, WalkOk K cl J ds Hv' → R J H') (f env S)
end
/-- nothing is let out -/
def WF : WX := fun _ _ _ _ => False
section
variable {X : Cx} {cl : CL} {W : WX}
theorem SE.can {e : Expr} {f : Ev A} (h : SE X cl W e f) : PE X e (cE X.K cl W f) :=
  let ⟨_, p, r⟩ := h.ex
  ⟨fun pins s σ H Q I ⟨Hv, S, ad, env, re, so, q⟩ => p.run pins s σ H Q I (r σ Hv H S ad env Q re so q)⟩
theorem ST.can {e : Expr} {f : Ev Bool} (h : ST X cl W e f) : PT X e (cT X.K cl W f) :=
  let ⟨_, p, r⟩ := h.ex
  ⟨fun pins s σ H Q I ⟨Hv, S, ad, env, re, so, q⟩ => p.run pins s σ H Q I (r σ Hv H S ad env Q re so q)⟩
theorem SI.can {tg e : Expr} {f : Ev (List D)} (h : SI X cl W tg e f) : PI X tg e (cI X.K cl W f) :=
  let ⟨_, p, r⟩ := h.ex
  ⟨fun pins s σ H Q I ⟨Hv, S, ad, env, re, so, q⟩ => p.run pins s σ H Q I (r σ Hv H S ad env Q re so q)⟩
end

/-! ### targets of a block: the slots vs alone are written -/
def cGx (K : PySem.W.Frag) (cl : CL) (vs : List Nat) (g : A → Ev Env) : TG := fun v σ H Q => ∃ Hv S ad env a, RepEnv K cl Hv ad σ env ∧ StOk K cl Hv H S ad ∧ RepA K cl Hv ad v a ∧
  Pst K cl WF σ Hv ad (fun env' _ Hv' ad' H' => ∀ σ', RepEnv K cl Hv' ad' σ' env' → wipe σ' vs = wipe σ vs → Q σ' H') (g a env S)
def cGsx (K : PySem.W.Frag) (cl : CL) (vs : List Nat) (g : List A → Ev Env) : TGs := fun xs σ H Q => ∃ Hv S ad env as, RepEnv K cl Hv ad σ env ∧ StOk K cl Hv H S ad ∧ RepAs K cl Hv ad xs as ∧
  Pst K cl WF σ Hv ad (fun env' _ Hv' ad' H' => ∀ σ', RepEnv K cl Hv' ad' σ' env' → wipe σ' vs = wipe σ vs → Q σ' H') (g as env S)
theorem wipe_set (σ : St) (x : Option V) (i : Nat) : ∀ vs : List Nat, i ∈ vs → wipe (σ.set i x) vs = wipe σ vs
  | [], h => by cases h
  | v :: vs, h => by
    show (wipe (σ.set i x) vs).set v none = (wipe σ vs).set v none
    by_cases hv : i ∈ vs
    · rw [wipe_set σ x i vs hv]
    · have hi : v = i := by
        rcases List.mem_cons.mp h with e | e
        · exact e.symm
        · exact absurd e hv
      subst hi
      have out : ∀ (ws : List Nat), v ∉ ws → ∀ τ : St, wipe (τ.set v x) ws = (wipe τ ws).set v x := fun ws => by
        induction ws with
        | nil => intro _ τ; rfl
        | cons w ws ih =>
          intro hw τ
          show (wipe (τ.set v x) ws).set w none = ((wipe τ ws).set w none).set v x
          rw [ih (fun z => hw (List.mem_cons_of_mem _ z)), List.set_comm _ _ (fun z => hw (by rw [z]; exact List.mem_cons_self))]
      rw [out vs hv, List.set_set]
section
variable {X : Cx} {cl : CL} {pos : Pos} {vs : List Nat}
theorem gx_name (i : Nat) {x : Str} (hv : i ∈ vs) (hN : X.N.Nodup) (hi : X.N[i]? = some x := by rfl) (hx : Loc X.env.scope x := by first | exact Or.inl rfl | exact Or.inr rfl) (hf : X.fn x = true ∨ X.env.scope.names.lookup x = some .local := by first | exact .inl rfl | exact .inr rfl | assumption) :
    PG X (.Name x pos) (cGx X.K cl vs (gSet i)) :=
  ⟨fun pins s σ H v u Q I r ⟨Hv, S, ad, env, a, re, so, ra, q⟩ => (pg_name (pos := pos) hN hi hx hf).run pins s σ H v u Q I r (q Hv ad H (Ex.refl _) (Pre.refl _) so _ (re.set i ra) (wipe_set σ _ i vs hv))⟩
theorem gsx_nil : PGs X [] (cGsx X.K cl vs gNone) := ⟨fun pins s σ H xs us Q I r ⟨Hv, S, ad, env, as, re, so, ra, q⟩ => by
  cases ra with
  | nil => exact pgs_nil.run pins s σ H [] us Q I r ⟨rfl, q Hv ad H (Ex.refl _) (Pre.refl _) so σ re rfl⟩
  | cons _ _ => exact q.elim⟩
theorem gsx_cons {e : Expr} {es : List Expr} {g : A → Ev Env} {k : List A → Ev Env} (h1 : PG X e (cGx X.K cl vs g)) (h2 : PGs X es (cGsx X.K cl vs k))
    (hs : (assignEach (e :: es) X.env).map (·.2) = assign e X.env :: (assignEach es X.env).map (·.2) := by rfl) : PGs X (e :: es) (cGsx X.K cl vs (gMore g k)) := by
  refine ⟨fun pins s σ H xs us Q I r ⟨Hv, S, ad, env, as, re, so, ra, q⟩ => ?_⟩
  cases ra with
  | nil => exact q.elim
  | @cons v a xs as r1 rs =>
    refine (pgs_cons h1 h2 hs).run pins s σ H (v :: xs) us Q I r ⟨v, xs, rfl, Hv, S, ad, env, a, re, so, r1, ?_⟩
    refine Pst.mono (Pst.bind (k := fun env' S1 => k as env' S1) q) fun env1 S1 Hv1 ad1 H1 e1 p1 s1 q1 σ1 re1 w1 => ?_
    refine ⟨Hv1, S1, ad1, env1, as, re1, s1, rs.mono e1 p1, ?_⟩
    cases q2 : k as env1 S1 with
    | ok b S2 =>
      rw [q2] at q1
      exact fun Hv2 ad2 H2 e2 p2 s2 σ2 re2 w2 => q1 Hv2 ad2 H2 e2 p2 s2 σ2 re2 (w2.trans w1)
    | exc c ns vs S2 =>
      rw [q2] at q1
      exact q1
    | bad =>
      rw [q2] at q1
      exact q1
theorem gx_tup {es : List Expr} {k : Nat} {n : Nat} {g : List A → Ev Env} (h : PGs X es (cGsx X.K cl vs g)) (hc : X.calm = true) (hn : (assignEach es X.env).length = n := by rfl) (hst : (assignEach es X.env).findIdx? (·.1) = none := by rfl) : PG X (.Tuple es k pos) (cGx X.K cl vs (gTupE n g)) := by
  refine ⟨fun pins s σ H v u Q I r ⟨Hv, S, ad, env, a, re, so, ra, q⟩ => ?_⟩
  unfold gTupE at q
  split at q
  · rename_i ds
    by_cases hl : ds.length = n
    · rw [if_pos hl] at q
      cases ra with
      | tup hq rs => exact (pg_tup hc h hn hst).run pins s σ H _ u Q I r ⟨_, _, rfl, ex_t so.ex hq, by rw [rs.length]; exact hl, Hv, S, ad, env, _, re, so, RepAs.vals rs, q⟩
    · rw [if_neg hl] at q
      exact q.elim
  · exact q.elim
end

/-! ### list comprehensions -/
def noExc {α : Type} : Out α → Out α
  | .exc _ _ _ _ => .bad
  | o => o
def wipeE (env : Env) : List Nat → Env
  | [] => env
  | v :: vs => (wipeE env vs).set v none
def tYesE : Ev Bool := fun _ S => .ok true S
/-- the block's turns: the list that grows stands at the place n of the store -/
def lcD (n : Nat) (g : A → Ev Env) (tt : Ev Bool) (te : Ev A) (env : Env) : List D → Store → Out Unit
  | [], S => .ok () S
  | d :: r, S => (noExc (g (.val d) env S)).bind fun env1 S1 => (noExc (tt env1 S1)).bind fun b S2 => match b with
    | false => lcD n g tt te env r S2
    | true => (noExc (te env1 S2)).bind fun a S3 => match a, S3[n]? with
      | .val y, some (some (.lst acc)) => if acc.length < 100000 then lcD n g tt te env r (S3.set n (some (.lst (acc ++ [y])))) else .bad
      | _, _ => .bad
def lcEnd (n : Nat) (S : Store) : Out A := match S[n]? with
  | some (some (.lst ds)) => .ok (.val (.lst ds)) (S.take n)
  | _ => .bad
def eLc (vs : List Nat) (src : Ev (List D)) (g : A → Ev Env) (tt : Ev Bool) (te : Ev A) : Ev A := fun env S => (src env S).bind fun ds S1 =>
  (lcD S1.length g tt te (wipeE env vs) ds (S1 ++ [some (.lst [])])).bind fun _ S2 => lcEnd S1.length S2

section
variable {K : PySem.W.Frag} {cl : CL} {W : WX} {σ : St} {Hv : Hp} {ad : List Addr}
theorem Pst.noExc {α β : Type} {R : β → Store → Hp → List Addr → Hp → Prop} {o : Out α} {k : α → Store → Out β} (h : Pst K cl W σ Hv ad R ((_root_.R.noExc o).bind k)) (σ' : St) :
    Pst K cl WF σ' Hv ad (fun a S' Hv' ad' _ => Pst K cl W σ Hv' ad' R (k a S')) o := by
  cases o with
  | ok a S => exact Pst.bind (o := .ok a S) h
  | exc c ns vs S => exact h.elim
  | bad => exact h
theorem Pst.bindK {α β : Type} {R : β → Store → Hp → List Addr → Hp → Prop} {o : Out α} {k : α → Store → Out β} (h : Pst K cl W σ Hv ad R (o.bind k)) :
    Pst K cl W σ Hv ad (fun a S' Hv' _ _ => Pst K cl W σ Hv' ad R (k a S')) o := by
  cases o with
  | ok a S => exact fun Hv' ad' H' e p s => Pst.up e (Pre.refl _) (show Pst K cl W σ Hv ad R (k a S) from h)
  | exc c ns vs S => exact h
  | bad => exact h
theorem wipe_rep {env : Env} : ∀ (vs : List Nat), RepEnv K cl Hv ad σ env → RepEnv K cl Hv ad (wipe σ vs) (wipeE env vs)
  | [], h => h
  | v :: vs, h => (wipe_rep vs h).unset v
end
section
variable {X : Cx} {cl : CL} {W : WX} {elt tg iter : Expr} {ifs : List Expr} {scope : Scope} {own : List (Str × Nat)} {pos : Pos} {src : Ev (List D)} {g : A → Ev Env} {tt : Ev Bool} {te : Ev A}
theorem rd_lc : RdE X.K cl W (tLc (cI X.K cl W src) (cGx X.K cl (own.map (·.2)) g) (cT X.K cl WF tt) (cE X.K cl WF te) (own.map (·.2))) (eLc (own.map (·.2)) src g tt te) := fun σ Hv H S ad env Q re so q => by
  refine ⟨Hv, S, ad, env, re, so, q.bind.mono fun ds S1 Hv1 ad1 H1 e1 p1 s1 q1 J wk Dd hD => ?_⟩
  have re1 := re.mono e1 p1
  have q2 := Pst.bindK q1
  have hpre : Pre ad1 (ad1 ++ [Dd]) := ⟨[Dd], rfl⟩
  have hDn : (ad1 ++ [Dd])[S1.length]? = some Dd := by rw [← s1.len]; simp
  refine ⟨fun i m H' => m = ds.length - i ∧ i ≤ ds.length ∧ ∃ Hv' S' ad', Ex Hv1 Hv' ∧ Pre (ad1 ++ [Dd]) ad' ∧ StOk X.K cl Hv' H' S' ad' ∧ Pst X.K cl W σ Hv' ad' (fun _ S2 Hv' _ _ => Pst X.K cl W σ Hv' ad1 (RA X.K cl Q) (lcEnd S1.length S2)) (lcD S1.length g tt te (wipeE env (own.map (·.2))) (ds.drop i) S'),
    ⟨ds.length, by omega, Nat.zero_le _, Hv1, _, ad1 ++ [Dd], Ex.refl _, Pre.refl _, s1.alloc (c := .lst []) hD ⟨[], upd_same, .nil⟩, q2.up (Ex.refl _) hpre⟩, ?_⟩
  rintro i m H2 ⟨rfl, hi, Hv2, S2, ad2, e2, p2, s2, q3⟩
  have hD2 : ad2[S1.length]? = some Dd := p2.get hDn
  by_cases hlt : i < ds.length
  · obtain ⟨d, hd⟩ : ∃ d, ds[i]? = some d := ⟨ds[i], List.getElem?_eq_getElem hlt⟩
    obtain ⟨go, yl⟩ := (wk i Hv2 H2 e2 s2.ex).2 d hd
    have edrop : ds.drop i = d :: ds.drop (i + 1) := by
      rw [List.drop_eq_getElem_cons hlt]
      congr 1
      rw [List.getElem?_eq_getElem hlt] at hd
      exact Option.some.inj hd
    rw [edrop] at q3
    refine .inr ⟨go, fun H' => ∃ Hv' S' ad', Ex Hv1 Hv' ∧ Pre (ad1 ++ [Dd]) ad' ∧ StOk X.K cl Hv' H' S' ad' ∧ Pst X.K cl W σ Hv' ad' (fun _ S2 Hv' _ _ => Pst X.K cl W σ Hv' ad1 (RA X.K cl Q) (lcEnd S1.length S2)) (lcD S1.length g tt te (wipeE env (own.map (·.2))) (ds.drop (i + 1)) S'),
      fun H' z => ⟨ds.length - (i + 1), by omega, rfl, hlt, z⟩, fun x H' hy => ?_⟩
    obtain ⟨Hv3, e3, s3, r3⟩ := yl x H' hy S2 ad2 s2
    have pre02 : Pre ad1 ad2 := hpre.trans p2
    have rew : RepEnv X.K cl Hv3 ad2 (wipe σ (own.map (·.2))) (wipeE env (own.map (·.2))) := (wipe_rep _ re1).mono (e2.trans e3) pre02
    have q4 := Pst.noExc (Pst.up e3 (Pre.refl _) q3) (wipe σ (own.map (·.2)))
    refine ⟨Hv3, S2, ad2, _, .val d, rew, s3, r3, q4.mono fun env4 S4 Hv4 ad4 H4 e4 p4 s4 q5 σ4 re4 w4 => ⟨by
      rw [w4]
      have idem : ∀ (vs ws : List Nat) (τ : St), (∀ v ∈ vs, v ∈ ws) → wipe (wipe τ vs) ws = wipe τ ws := fun vs => by
        induction vs with
        | nil => intro ws τ _; rfl
        | cons v vs ih =>
          intro ws τ hv
          show wipe ((wipe τ vs).set v none) ws = _
          rw [wipe_set _ _ _ ws (hv v List.mem_cons_self)]
          exact ih ws τ fun u hu => hv u (List.mem_cons_of_mem _ hu)
      exact idem _ _ σ fun _ h => h, ?_⟩⟩
    refine ⟨Hv4, S4, ad4, env4, re4, s4, (Pst.noExc q5 σ4).mono fun b S5 Hv5 ad5 H5 e5 p5 s5 q6 => ?_⟩
    have e15 : Ex Hv1 Hv5 := e2.trans (e3.trans (e4.trans e5))
    have p15 : Pre (ad1 ++ [Dd]) ad5 := p2.trans (p4.trans p5)
    cases b with
    | false => exact ⟨Hv5, S5, ad5, e15, p15, s5, q6⟩
    | true =>
      show cE X.K cl WF te σ4 H5 _
      refine ⟨Hv5, S5, ad5, env4, re4.mono e5 p5, s5, (Pst.noExc q6 σ4).mono fun a S6 Hv6 ad6 H6 e6 p6 s6 q7 v6 r6 => ?_⟩
      split at q7
      · rename_i y acc eac
        by_cases hz : acc.length < 100000
        · rw [if_pos hz] at q7
          have p16 : Pre (ad1 ++ [Dd]) ad6 := p15.trans p6
          have hD6 : ad6[S1.length]? = some Dd := p16.get hDn
          obtain ⟨D', g1, g2, xs, g3, g4⟩ := s6.at_ _ _ eac
          rw [hD6] at g1
          cases g1
          refine ⟨xs, g3, Nat.lt_of_lt_of_le (by rw [g4.length]; exact hz) (by decide), Hv6, _, ad6, e15.trans e6, p16, s6.write eac hD6 (c' := .lst (acc ++ [y])) ⟨_, upd_same, g4.append (.cons r6 .nil)⟩, q7⟩
        · rw [if_neg hz] at q7
          exact q7.elim
      · exact q7.elim
  · refine .inl ⟨(wk i Hv2 H2 e2 s2.ex).1 (by omega), ?_⟩
    rw [List.drop_eq_nil_of_le (by omega)] at q3
    have q4 : Pst X.K cl W σ Hv2 ad1 (RA X.K cl Q) (lcEnd S1.length S2) := q3 Hv2 ad2 H2 (Ex.refl _) (Pre.refl _) s2
    unfold lcEnd at q4
    split at q4
    · rename_i acc eac
      obtain ⟨D', g1, g2, g3⟩ := s2.at_ _ _ eac
      rw [hD2] at g1
      cases g1
      obtain ⟨o, ho⟩ := g3.thing
      have s5 := (s2.freeze eac hD2 ho).take S1.length (s1.len ▸ s1.ka.len)
      have ead : ad2.take S1.length = ad1 := (hpre.trans p2).take s1.len
      have eS : (S2.set S1.length none).take S1.length = S2.take S1.length := by rw [List.take_set_of_le (Nat.le_refl _)]
      rw [ead, eS] at s5
      exact q4 _ ad1 H2 (Ex.new g2) (Pre.refl _) s5 (.ref Dd) (g3.rep g2 ho rfl)
    · exact q4.elim
/-- the tests of a block -/
theorem pts_none : PTs X [] (cT X.K cl WF tYesE) := ⟨fun pins s σ H Q I ⟨Hv, S, ad, env, re, so, q⟩ => pts_nil.run pins s σ H Q I (q.hereB so)⟩
theorem pts_st {c : Expr} {f : Ev Bool} (h : ST X cl WF c f) : PTs X [c] (cT X.K cl WF f) := pts_one h.can
theorem se_lc (hc : X.calm = true) (hN : X.N.Nodup) (hi : SI X cl W tg iter src) (ok : BlkOk X.N X.env.scope scope own)
    (hg : ∀ (s : Shared) (H : Hp) (C : Addr) (c : List (Str × Addr)) (fp : List Addr), PG (X.blk s H scope (compEnvC scope c C X.env) fp) tg (cGx X.K cl (own.map (·.2)) g))
    (ht : ∀ (s : Shared) (H : Hp) (C : Addr) (c : List (Str × Addr)) (fp : List Addr), PTs (X.blk s H scope (compEnvC scope c C X.env) fp) ifs (cT X.K cl WF tt))
    (he : ∀ (s : Shared) (H : Hp) (C : Addr) (c : List (Str × Addr)) (fp : List Addr), SE (X.blk s H scope (compEnvC scope c C X.env) fp) cl WF elt te) (hs : ∀ x, foldedSetIterable iter X.env x = pure x := by intro _; rfl) :
    SE X cl W (.ListComp elt [⟨tg, iter, ifs, 0⟩] scope pos) (eLc (own.map (·.2)) src g tt te) :=
  ⟨_, pe_lc hc hN hi.can ok hg ht (fun s H C c fp => (he s H C c fp).can) hs, rd_lc⟩
/-- name = [..] -/
theorem ss_setLc (i : Nat) {y : Str} {py spos : Pos} (hc : X.calm = true) (hN : X.N.Nodup) (hsw : swapsWith (.ListComp elt [⟨tg, iter, ifs, 0⟩] scope pos) (some (.Name y py)) spos.line X.env = pure true) (hi : SI X cl W tg iter src) (ok : BlkOk X.N X.env.scope scope own)
    (hg : ∀ (s : Shared) (H : Hp) (C : Addr) (c : List (Str × Addr)) (fp : List Addr), PG (X.blk s H scope (compEnvC scope c C X.env) fp) tg (cGx X.K cl (own.map (·.2)) g))
    (ht : ∀ (s : Shared) (H : Hp) (C : Addr) (c : List (Str × Addr)) (fp : List Addr), PTs (X.blk s H scope (compEnvC scope c C X.env) fp) ifs (cT X.K cl WF tt))
    (he : ∀ (s : Shared) (H : Hp) (C : Addr) (c : List (Str × Addr)) (fp : List Addr), SE (X.blk s H scope (compEnvC scope c C X.env) fp) cl WF elt te) (hs : ∀ x, foldedSetIterable iter X.env x = pure x := by intro _; rfl)
    (hy : X.N[i]? = some y := by rfl) (hyl : X.env.scope.names.lookup y = some .local := by rfl) :
    SS X cl W (.Assign [.Name y py] (.ListComp elt [⟨tg, iter, ifs, 0⟩] scope pos) spos) (sSet i (eLc (own.map (·.2)) src g tt te)) :=
  ⟨_, ps_setLc hc hN hy hyl hsw hi.can ok hg ht (fun s H C c fp => (he s H C c fp).can) hs, fun σ Hv H S ad env Dn re so q =>
    rd_lc (X := X) σ Hv H S ad env _ re so ((q.bind re).mono fun a S1 Hv1 ad1 H1 e1 p1 s1 q1 v1 r1 => q1 _ Hv1 ad1 H1 (Ex.refl _) (Pre.refl _) s1 ((re.mono e1 p1).set i r1))⟩
end
end R


namespace R
open PySem L2

theorem opOr {X : Cx} {f : Value → Value → Sem Value} {r r' : R2} (h : OpR X f r) (h' : OpR X f r') : OpR X f (fun x y H Q => r x y H Q ∨ r' x y H Q) := fun pins s σ H x y v u Q I rx ry q =>
  q.elim (h pins s σ H x y v u Q I rx ry) (h' pins s σ H x y v u Q I rx ry)

/-! ### a datum as the model's plain data -/
mutual
def toPy : D → Option PyData
  | .non => some .none
  | .bl b => some (.bool b)
  | .int i => some (.int i)
  | .str x => some (.str x)
  | .tup xs => (toPys xs).map .tuple
  | .lst xs => (toPys xs).map .list
  | .dic _ _ => none
  | .obj _ _ _ => none
  | .exc _ _ _ => none
  | .scr _ => none
  | .ty _ => none
  | .cls _ => none
def toPys : List D → Option (List PyData)
  | [] => some []
  | x :: r => match toPy x, toPys r with
    | some a, some b => some (a :: b)
    | _, _ => none
end
section
variable {K : PySem.W.Frag} {cl : CL} {H : Hp}
theorem rep_dp {v : V} {d : D} (h : Rep K cl H v d) : ∀ p, toPy d = some p → Dp K H v p :=
  Rep.rec (motive_1 := fun v d _ => ∀ p, toPy d = some p → Dp K H v p) (motive_2 := fun vs ds _ => ∀ ps, toPys ds = some ps → DpAll K H vs ps)
    (fun p e => by simp only [toPy, Option.some.injEq] at e; subst e; exact .non)
    (fun p e => by simp only [toPy, Option.some.injEq] at e; subst e; exact .bl _)
    (fun p e => by simp only [toPy, Option.some.injEq] at e; subst e; exact .int _)
    (fun p e => by simp only [toPy, Option.some.injEq] at e; subst e; exact .str _)
    (fun {a xs ds} hq _ ih p e => by
      simp only [toPy] at e
      cases q : toPys ds with
      | none => rw [q] at e; cases e
      | some ps =>
        rw [q] at e
        cases e
        exact .tup hq (ih ps q))
    (fun {a xs ds} hq _ ih p e => by
      simp only [toPy] at e
      cases q : toPys ds with
      | none => rw [q] at e; cases e
      | some ps =>
        rw [q] at e
        cases e
        exact .lst (.inl (.inl hq)) (ih ps q))
    (fun _ p e => by simp only [toPy] at e; cases e)
    (fun _ _ _ _ p e => by simp only [toPy] at e; cases e)
    (fun _ _ _ _ p e => by simp only [toPy] at e; cases e)
    (fun _ _ _ _ p e => by simp only [toPy] at e; cases e)
    (fun _ _ _ _ _ _ _ p e => by simp only [toPy] at e; cases e)
    (fun _ _ p e => by simp only [toPy] at e; cases e)
    (fun p e => by simp only [toPy] at e; cases e)
    (fun p e => by simp only [toPy] at e; cases e)
    (fun ps e => by simp only [toPys, Option.some.injEq] at e; subst e; exact .nil)
    (fun {v d vs ds} _ _ ih1 ih2 ps e => by
      simp only [toPys] at e
      cases q1 : toPy d with
      | none => rw [q1] at e; cases e
      | some p =>
        cases q2 : toPys ds with
        | none => rw [q1, q2] at e; cases e
        | some r =>
          rw [q1, q2] at e
          cases e
          exact .cons (ih1 p q1) (ih2 r q2)) h
end

theorem reps_dp {K : PySem.W.Frag} {cl : CL} {H : Hp} : ∀ {vs : List V} {ds : List D} {ps : List PyData}, Reps K cl H vs ds → toPys ds = some ps → DpAll K H vs ps
  | _, _, _, .nil, h => by
    simp only [toPys, Option.some.injEq] at h
    subst h
    exact .nil
  | _, _, ps, .cons (d := d) (ds := ds) r rs, h => by
    simp only [toPys] at h
    cases q1 : toPy d with
    | none => rw [q1] at h; cases h
    | some p =>
      cases q2 : toPys ds with
      | none => rw [q1, q2] at h; cases h
      | some t =>
        rw [q1, q2] at h
        cases h
        exact .cons (rep_dp r p q1) (reps_dp rs q2)
/-! ### what a list is to be read as -/
def lst? (S : Store) : A → Option (List D)
  | .val (.lst ds) => some ds
  | .loc n => match S[n]? with
    | some (some (.lst ds)) => some ds
    | _ => none
  | _ => none
def tup? : A → Option (List D)
  | .val (.tup ds) => some ds
  | _ => none
section
variable {K : PySem.W.Frag} {cl : CL} {Hv H : Hp} {S : Store} {ad : List Addr}
theorem lst_at {v : V} {a : A} {ds : List D} (so : StOk K cl Hv H S ad) (r : RepA K cl Hv ad v a) (e : lst? S a = some ds) : ∃ p xs, v = .ref p ∧ H p = some (.lst xs) ∧ Reps K cl Hv xs ds := by
  cases a with
  | val d =>
    cases d <;> first
      | (cases e; cases r with | lst h rs => exact ⟨_, _, rfl, so.ex _ _ h, rs⟩)
      | cases e
  | loc n =>
    obtain ⟨p, rfl, hp⟩ := r
    unfold lst? at e
    dsimp only at e
    split at e
    · rename_i es q
      cases e
      obtain ⟨p', h1, _, xs, h3, h4⟩ := so.at_ n _ q
      rw [hp] at h1
      cases h1
      exact ⟨p, xs, rfl, h3, h4⟩
    · cases e
  | fv k => cases e
theorem tup_at {v : V} {a : A} {ds : List D} (so : StOk K cl Hv H S ad) (r : RepA K cl Hv ad v a) (e : tup? a = some ds) : ∃ p xs, v = .ref p ∧ SqT K H p xs ∧ Reps K cl Hv xs ds := by
  cases a with
  | val d =>
    cases d <;> first
      | (cases e; cases r with | tup h rs => exact ⟨_, _, rfl, ex_t so.ex h, rs⟩)
      | cases e
  | loc n => cases e
  | fv k => cases e
end

/-! ### arithmetic and sums -/
def hAdd (a b : A) (S : Store) : Out A := match a, b with
  | .val (.int i), .val (.int j) => .ok (.val (.int (i + j))) S
  | .val (.str x), .val (.str y) => if x.length + y.length ≤ 100000 then .ok (.val (.str (x ++ y))) S else .bad
  | .val (.lst xs), .val (.lst ys) => if xs.length + ys.length ≤ 100000 then .ok (.val (.lst (xs ++ ys))) S else .bad
  | .val (.tup xs), .val (.tup ys) => if xs.length + ys.length ≤ 100000 ∧ xs ≠ [] then .ok (.val (.tup (xs ++ ys))) S else .bad
  | _, _ => .bad
def hInt (C : Int → Int → Bool) (g : Int → Int → D) (a b : A) (S : Store) : Out A := match a, b with
  | .val (.int i), .val (.int j) => if C i j = true then .ok (.val (g i j)) S else .bad
  | _, _ => .bad
def yes2 : Int → Int → Bool := fun _ _ => true
def hSub := hInt yes2 fun i j => .int (i - j)
def mulOk (i j : Int) : Bool := decide (i.natAbs < 2 ^ 64) || (decide (j.natAbs < 2 ^ 64) || decide (i.natAbs.log2 + j.natAbs.log2 < 1000000))
theorem mulOk_ok {i j : Int} (h : mulOk i j = true) : IntMulOk i j := by
  unfold mulOk at h
  rcases (Bool.or_eq_true _ _).mp h with h | h
  · have h := of_decide_eq_true h
    exact CMul.ok (.inl (by omega))
  · rcases (Bool.or_eq_true _ _).mp h with h | h
    · have h := of_decide_eq_true h
      exact CMul.ok (.inr (by omega))
    · have h2 : i.natAbs.log2 + j.natAbs.log2 < 1000000 := of_decide_eq_true h
      exact CMulW.ok (show CMulW i j from h2)
def hMul := hInt mulOk fun i j => .int (i * j)
def divOk (_ j : Int) : Bool := decide (0 < j) && decide (j.natAbs.log2 < 9000)
def hDiv := hInt divOk fun i j => .int (i / j)
def hMod := hInt (fun _ j => decide (0 < j)) fun i j => .int (i % j)
def powOk (i j : Int) : Bool := decide (0 ≤ j) && (decide (j ≤ 1000000) && decide (i.natAbs < 2 ^ 64))
def hPow := hInt powOk fun i j => .int (i ^ j.toNat)
def hLt := hInt yes2 fun i j => .bl (decide (i < j))
def hLe := hInt yes2 fun i j => .bl (decide (i ≤ j))
def hGt := hInt yes2 fun i j => .bl (decide (j < i))
def hGe := hInt yes2 fun i j => .bl (decide (j ≤ i))
/-- == of plain data -/
def pyA (S : Store) (a : A) : Option PyData := match lst? S a with
  | some ds => (toPys ds).map .list
  | none => match a with
    | .val d => toPy d
    | _ => none
def eqPy (S : Store) (a b : A) : Option Bool := match pyA S a, pyA S b with
  | some p, some q => if SeqAt.shaped p = true ∧ SeqAt.shaped q = true then some (PyData.eqv p q) else none
  | _, _ => none
/-- texts of any kind -/
def eqS (a b : A) : Option Bool := match a, b with
  | .val (.str x), .val (.str y) => some (x == y)
  | _, _ => none
def eqA (S : Store) (a b : A) : Option Bool := match eqS a b with
  | some k => some k
  | none => eqPy S a b
def hEq (a b : A) (S : Store) : Out A := match eqA S a b with
  | some k => .ok (.val (.bl k)) S
  | none => .bad
def hNe (a b : A) (S : Store) : Out A := match eqA S a b with
  | some k => .ok (.val (.bl (!k))) S
  | none => .bad
def hIsN (a : A) (b : A) (S : Store) : Out A := match a, b with
  | .val .non, .val .non => .ok (.val (.bl true)) S
  | .val _, .val .non => .ok (.val (.bl false)) S
  | .loc _, .val .non => .ok (.val (.bl false)) S
  | _, _ => .bad
def hIsNot (a : A) (b : A) (S : Store) : Out A := match a, b with
  | .val .non, .val .non => .ok (.val (.bl false)) S
  | .val _, .val .non => .ok (.val (.bl true)) S
  | .loc _, .val .non => .ok (.val (.bl true)) S
  | _, _ => .bad
def hNeg (a : A) (S : Store) : Out A := match a with
  | .val (.int i) => .ok (.val (.int (-i))) S
  | _ => .bad

section
variable {X : Cx} {cl : CL} {W : WX}
theorem rd_int {C : Int → Int → Bool} {C' : Int → Int → Prop} {g : Int → Int → D} {g' : Int → Int → V} (hC : ∀ i j, C i j = true → C' i j) (hg : ∀ Hv i j, Rep X.K cl Hv (g' i j) (g i j)) : RdO X.K cl W (rI C' g') (hInt C g) := fun σ Hv H S ad x y a b Q so rx ry q => by
  unfold hInt at q
  split at q
  · rename_i i j
    cases rx
    cases ry
    by_cases h : C i j = true
    · rw [if_pos h] at q
      exact ⟨i, j, rfl, rfl, hC i j h, q.here so _ (hg Hv i j)⟩
    · rw [if_neg h] at q
      exact q.elim
  · exact q.elim
theorem rd_int0 {g : Int → Int → D} {g' : Int → Int → V} (hg : ∀ Hv i j, Rep X.K cl Hv (g' i j) (g i j)) : RdO X.K cl W (rI0 g') (hInt yes2 g) := fun σ Hv H S ad x y a b Q so rx ry q => by
  unfold hInt at q
  split at q
  · rename_i i j
    cases rx
    cases ry
    rw [if_pos (show yes2 i j = true from rfl)] at q
    exact ⟨i, j, rfl, rfl, q.here so _ (hg Hv i j)⟩
  · exact q.elim
theorem o_sub : ∃ r, OpR X (binaryOp .Sub) r ∧ RdO X.K cl W r hSub := ⟨_, op_sub, rd_int0 fun _ _ _ => .int⟩
theorem o_mul : ∃ r, OpR X (binaryOp .Mult) r ∧ RdO X.K cl W r hMul := ⟨_, opI (C := fun i j => mulOk i j = true) fun _ _ _ _ _ _ _ hc q => PyProof.Rows.mul_int q (mulOk_ok hc), rd_int (fun i j h => h) fun _ _ _ => .int⟩
theorem o_div : ∃ r, OpR X (binaryOp .FloorDiv) r ∧ RdO X.K cl W r hDiv := ⟨_, op_fdivW, rd_int (fun i j h => by
  have h2 := Bool.and_eq_true_iff.mp h
  exact ⟨of_decide_eq_true h2.1, of_decide_eq_true h2.2⟩) fun _ _ _ => .int⟩
theorem o_mod : ∃ r, OpR X (binaryOp .Mod) r ∧ RdO X.K cl W r hMod := ⟨_, op_mod, rd_int (fun _ _ h => of_decide_eq_true h) fun _ _ _ => .int⟩
theorem o_pow : ∃ r, OpR X (binaryOp .Pow) r ∧ RdO X.K cl W r hPow := ⟨_, op_pow, rd_int (fun i j h => by
  have h2 := Bool.and_eq_true_iff.mp h
  have h3 := Bool.and_eq_true_iff.mp h2.2
  exact ⟨of_decide_eq_true h2.1, of_decide_eq_true h3.1, of_decide_eq_true h3.2⟩) fun _ _ _ => .int⟩
theorem o_lt : ∃ r, OpR X (compareOp .Lt) r ∧ RdO X.K cl W r hLt := ⟨_, op_lt, rd_int0 fun _ _ _ => .bl⟩
theorem o_le : ∃ r, OpR X (compareOp .LtE) r ∧ RdO X.K cl W r hLe := ⟨_, op_le, rd_int0 fun _ _ _ => .bl⟩
theorem o_gt : ∃ r, OpR X (compareOp .Gt) r ∧ RdO X.K cl W r hGt := ⟨_, op_gt, rd_int0 fun _ _ _ => .bl⟩
theorem o_ge : ∃ r, OpR X (compareOp .GtE) r ∧ RdO X.K cl W r hGe := ⟨_, op_ge, rd_int0 fun _ _ _ => .bl⟩
theorem o_add : ∃ r, OpR X (binaryOp .Add) r ∧ RdO X.K cl W r hAdd := by
  refine ⟨_, opOr op_add (opOr op_add_str (opOr op_cat op_catT)), fun σ Hv H S ad x y a b Q so rx ry q => ?_⟩
  unfold hAdd at q
  split at q
  · rename_i i j
    cases rx
    cases ry
    exact .inl ⟨i, j, rfl, rfl, q.here so _ .int⟩
  · rename_i s t
    cases rx
    cases ry
    split at q
    · rename_i hl
      exact .inr (.inl ⟨s, t, rfl, rfl, sz_of hl, q.here so _ .str⟩)
    · exact q.elim
  · rename_i xs ys
    cases rx with
    | lst h1 r1 =>
      cases ry with
      | lst h2 r2 =>
        split at q
        · rename_i hl
          refine .inr (.inr (.inl ⟨_, _, _, _, rfl, rfl, so.ex _ _ h1, so.ex _ _ h2, sz_of (by rw [r1.length, r2.length]; exact hl), fun p hp => q.made so hp (.lst upd_same ((r1.append r2).mono (Ex.new (so.ex.nn hp))))⟩))
        · exact q.elim
  · rename_i xs ys
    cases rx with
    | tup h1 r1 =>
      cases ry with
      | tup h2 r2 =>
        split at q
        · rename_i hl
          obtain ⟨hl, hn⟩ := hl
          have hx : ∀ {zs : List V} {ds : List D}, Reps X.K cl Hv zs ds → (zs = [] ↔ ds = []) := fun r => by
            cases r with
            | nil => simp
            | cons _ _ => simp
          refine .inr (.inr (.inr ⟨_, _, _, _, rfl, rfl, ex_t so.ex h1, ex_t so.ex h2, fun z => hn ((hx r1).mp z), sz_of (by rw [r1.length, r2.length]; exact hl), fun z => ?_, fun z p hp => ?_⟩))
          · have hy := (hx r2).mp z
            subst hy
            rw [List.append_nil] at q
            exact q.here so _ (.tup h1 r1)
          · exact q.made so hp (.tup (.inl (.inl upd_same)) ((r1.append r2).mono (Ex.new (so.ex.nn hp))))
        · exact q.elim
  · exact q.elim
theorem pyA_dp {Hv H : Hp} {S : Store} {ad : List Addr} {x : V} {a : A} {p : PyData} (so : StOk X.K cl Hv H S ad) (rx : RepA X.K cl Hv ad x a) (h : pyA S a = some p) : Dp X.K H x p := by
  unfold pyA at h
  split at h
  · rename_i ds e
    obtain ⟨q, xs, rfl, h1, rs⟩ := lst_at so rx e
    cases et : toPys ds with
    | none => rw [et] at h; cases h
    | some ps =>
      rw [et] at h
      cases h
      exact .lst (.inl (.inl h1)) (reps_dp (rs.mono so.ex) et)
  · cases a with
    | val d => exact rep_dp (Rep.mono so.ex rx) p h
    | loc n => cases h
    | fv k => cases h
theorem eqPy_dp {Hv H : Hp} {S : Store} {ad : List Addr} {x y : V} {a b : A} {k : Bool} (so : StOk X.K cl Hv H S ad) (rx : RepA X.K cl Hv ad x a) (ry : RepA X.K cl Hv ad y b) (h : eqPy S a b = some k) :
    ∃ p q, Dp X.K H x p ∧ Dp X.K H y q ∧ SeqAt.shaped p = true ∧ SeqAt.shaped q = true ∧ k = PyData.eqv p q := by
  unfold eqPy at h
  split at h
  · rename_i p q e1 e2
    split at h
    · rename_i hs
      cases h
      exact ⟨p, q, pyA_dp so rx e1, pyA_dp so ry e2, hs.1, hs.2, rfl⟩
    · cases h
  · cases h
theorem eqS_ok {Hv : Hp} {ad : List Addr} {x y : V} {a b : A} {k : Bool} (rx : RepA X.K cl Hv ad x a) (ry : RepA X.K cl Hv ad y b) (h : eqS a b = some k) : scal x y = true ∧ decide (x = y) = k := by
  unfold eqS at h
  split at h
  · rename_i z u
    cases h
    cases rx
    cases ry
    exact ⟨rfl, by rw [Bool.eq_iff_iff]; simp⟩
  · cases h
theorem o_eq (hr : X.A.units + 64 < cLine) : ∃ r, OpR X (compareOp .Eq) r ∧ RdO X.K cl W r hEq := by
  refine ⟨_, opOr op_eq (op_eqD hr), fun σ Hv H S ad x y a b Q so rx ry q => ?_⟩
  unfold hEq eqA at q
  cases es : eqS a b with
  | some k =>
    rw [es] at q
    obtain ⟨h1, rfl⟩ := eqS_ok rx ry es
    exact .inl ⟨h1, Pst.here so q _ .bl⟩
  | none =>
    rw [es] at q
    dsimp only at q
    split at q
    · rename_i k e
      obtain ⟨p, r, h1, h2, h3, h4, rfl⟩ := eqPy_dp so rx ry e
      exact .inr ⟨p, r, h1, h2, h3, h4, q.here so _ .bl⟩
    · exact q.elim
theorem o_ne (hr : X.A.units + 64 < cLine) : ∃ r, OpR X (compareOp .NotEq) r ∧ RdO X.K cl W r hNe := by
  refine ⟨_, opOr op_ne (op_neD hr), fun σ Hv H S ad x y a b Q so rx ry q => ?_⟩
  unfold hNe eqA at q
  cases es : eqS a b with
  | some k =>
    rw [es] at q
    obtain ⟨h1, rfl⟩ := eqS_ok rx ry es
    exact .inl ⟨h1, Pst.here so q _ .bl⟩
  | none =>
    rw [es] at q
    dsimp only at q
    split at q
    · rename_i k e
      obtain ⟨p, r, h1, h2, h3, h4, rfl⟩ := eqPy_dp so rx ry e
      exact .inr ⟨p, r, h1, h2, h3, h4, q.here so _ .bl⟩
    · exact q.elim
theorem rep_non {Hv : Hp} {v : V} {d : D} (r : Rep X.K cl Hv v d) : v = .non ↔ d = .non := by
  cases r <;> simp
theorem o_isN : ∃ r, OpR X (compareOp .Is) r ∧ RdO X.K cl W r hIsN := by
  refine ⟨_, op_isN, fun σ Hv H S ad x y a b Q so rx ry q => ?_⟩
  unfold hIsN at q
  split at q
  · cases rx
    cases ry
    exact ⟨rfl, q.here so _ .bl⟩
  · rename_i d hd
    cases ry
    have hx : x ≠ .non := fun z => hd ((rep_non (d := d) rx).mp z)
    rw [decide_eq_false hx]
    exact ⟨rfl, q.here so _ .bl⟩
  · cases ry
    obtain ⟨p, rfl, _⟩ := rx
    exact ⟨rfl, q.here so _ .bl⟩
  · exact q.elim
theorem o_isNot : ∃ r, OpR X (compareOp .IsNot) r ∧ RdO X.K cl W r hIsNot := by
  refine ⟨_, op_notN, fun σ Hv H S ad x y a b Q so rx ry q => ?_⟩
  unfold hIsNot at q
  split at q
  · cases rx
    cases ry
    exact ⟨rfl, q.here so _ .bl⟩
  · rename_i d hd
    cases ry
    have hx : x ≠ .non := fun z => hd ((rep_non (d := d) rx).mp z)
    rw [decide_eq_false hx]
    exact ⟨rfl, q.here so _ .bl⟩
  · cases ry
    obtain ⟨p, rfl, _⟩ := rx
    exact ⟨rfl, q.here so _ .bl⟩
  · exact q.elim
theorem u_neg : ∃ r, UnR X (unaryOp .USub) r ∧ RdU X.K cl W r hNeg := by
  refine ⟨_, un_neg, fun σ Hv H S ad x a Q so rx q => ?_⟩
  unfold hNeg at q
  split at q
  · cases rx
    exact ⟨_, rfl, q.here so _ .int⟩
  · exact q.elim
end
end R


namespace R
open PySem L2

/-! ### items, slices -/
def hIx (a b : A) (S : Store) : Out A := match b with
  | .val (.int i) => (match lst? S a with
    | some ds => (match atI ds i with
      | some d => .ok (.val d) S
      | none => .bad)
    | none => match tup? a with
      | some ds => (match atI ds i with
        | some d => .ok (.val d) S
        | none => .bad)
      | none => match a with
        | .val (.str z) => if z.length ≤ 100000 then (match atI z.cps.toList i with
          | some c => .ok (.val (.str ⟨#[c]⟩)) S
          | none => .bad) else .bad
        | _ => .bad)
  | _ => .bad
def cutD (ds : List D) (lo hi : Option Int) : List D := (ds.drop (HT.sIx ds.length 0 lo)).take (HT.sIx ds.length ds.length hi - HT.sIx ds.length 0 lo)
def hSl (a : A) (lo hi : Option Int) (S : Store) : Out A := match a with
  | .val (.scr ns) => .ok (.val (.lst (cutD (ns.map D.int) lo hi))) S
  | a => match lst? S a with
    | some ds => .ok (.val (.lst (cutD ds lo hi))) S
    | none => .bad
abbrev EvO := Env → Store → Out (Option Int)
def oNone : EvO := fun _ S => .ok none S
def oSome (f : Ev A) : EvO := fun env S => (f env S).bind fun a S1 => match a with
  | .val (.int i) => .ok (some i) S1
  | _ => .bad
def eSl (f : Ev A) (lo hi : EvO) : Ev A := fun env S => (f env S).bind fun a S1 => (lo env S1).bind fun l S2 => (hi env S2).bind fun h S3 => hSl a l h S3
structure SO (X : Cx) (cl : CL) (W : WX) (e : Option Expr) (f : EvO) : Prop where
  ex : ∃ t : TO, PO X e t ∧ ∀ (σ : St) (Hv H : Hp) (S : Store) (ad : List Addr) (env : Env) (Q : Option Int → Hp → Prop), RepEnv X.K cl Hv ad σ env → StOk X.K cl Hv H S ad → Pst X.K cl W σ Hv ad (fun o _ _ _ H' => Q o H') (f env S) → t σ H Q
theorem Reps.atI {K : PySem.W.Frag} {cl : CL} {H : Hp} {xs : List V} {ds : List D} {i : Int} {d : D} (r : Reps K cl H xs ds) (h : L2.atI ds i = some d) : ∃ v, L2.atI xs i = some v ∧ Rep K cl H v d := by
  unfold L2.atI at h ⊢
  rw [r.length]
  cases q : ixN ds.length i with
  | none =>
    rw [q] at h
    cases h
  | some j =>
    rw [q] at h
    exact r.get h
theorem Reps.cut {K : PySem.W.Frag} {cl : CL} {H : Hp} {xs : List V} {ds : List D} (r : Reps K cl H xs ds) (lo hi : Option Int) : Reps K cl H (cutV xs lo hi) (cutD ds lo hi) := by
  unfold cutV cutD
  rw [r.length]
  exact (r.drop _).take _
section
variable {X : Cx} {cl : CL} {W : WX} {a b : Expr} {pos p2 : Pos}
theorem rd_ix : RdO X.K cl W (rIx X.K) hIx := fun σ Hv H S ad x y a b Q so rx ry q => by
  unfold hIx at q
  split at q
  · rename_i i
    cases ry
    split at q
    · rename_i ds e
      split at q
      · rename_i d ed
        obtain ⟨p, xs, rfl, h1, rs⟩ := lst_at so rx e
        obtain ⟨v, hv, rv⟩ := rs.atI ed
        exact .inl ⟨p, xs, i, v, rfl, rfl, .inl (.inl h1), hv, q.here so v rv⟩
      · exact q.elim
    · split at q
      · rename_i ds e
        split at q
        · rename_i d ed
          obtain ⟨p, xs, rfl, h1, rs⟩ := tup_at so rx e
          obtain ⟨v, hv, rv⟩ := rs.atI ed
          exact .inr (.inl ⟨p, xs, i, v, rfl, rfl, h1, hv, q.here so v rv⟩)
        · exact q.elim
      · split at q
        · rename_i z _ _
          cases rx
          split at q
          · rename_i hz
            split at q
            · rename_i c hc
              exact .inr (.inr ⟨z, i, c, rfl, rfl, sz_of hz, hc, q.here so _ .str⟩)
            · exact q.elim
          · exact q.elim
        · exact q.elim
  · exact q.elim
theorem se_ix {f g : Ev A} (ha : SE X cl W a f) (hb : SE X cl W b g) (hs : PlainIx b := by intro _ _; rfl) : SE X cl W (.Subscript a b pos) (eOp hIx f g) :=
  let ⟨_, pa, ra⟩ := ha.ex
  let ⟨_, pb, rb⟩ := hb.ex
  ⟨_, pe_ix ix_seq pa pb hs, rd_op ra rb rd_ix⟩
theorem so_none : SO X cl W none oNone := ⟨_, po_none, fun σ Hv H S ad env Q re so q => q Hv ad H (Ex.refl _) (Pre.refl _) so⟩
theorem so_some {f : Ev A} (h : SE X cl W a f) : SO X cl W (some a) (oSome f) :=
  let ⟨_, p, r⟩ := h.ex
  ⟨_, po_some p, fun σ Hv H S ad env Q re so q => r σ Hv H S ad env _ re so (q.bind.mono fun z S1 Hv1 ad1 H1 e1 p1 s1 q1 v r1 => by
    split at q1
    · cases r1
      exact ⟨_, rfl, q1 Hv1 ad1 H1 (Ex.refl _) (Pre.refl _) s1⟩
    · exact q1.elim)⟩
theorem se_sl {lo hi : Option Expr} {f : Ev A} {g h : EvO} (ha : SE X cl W a f) (hl : SO X cl W lo g) (hh : SO X cl W hi h) : SE X cl W (.Subscript a (.Slice lo hi none p2) pos) (eSl f g h) := by
  obtain ⟨_, pa, ra⟩ := ha.ex
  obtain ⟨_, pl, rl⟩ := hl.ex
  obtain ⟨_, ph, rh⟩ := hh.ex
  refine ⟨_, pe_slice sl_list pa pl ph, fun σ Hv H S ad env Q re so q => ?_⟩
  refine ra σ Hv H S ad env _ re so (q.bind.mono fun z S1 Hv1 ad1 H1 e1 p1 s1 q1 v r1 => ?_)
  refine rl σ Hv1 H1 S1 ad1 env _ (re.mono e1 p1) s1 (q1.bind.mono fun l S2 Hv2 ad2 H2 e2 p2 s2 q2 => ?_)
  refine rh σ Hv2 H2 S2 ad2 env _ ((re.mono e1 p1).mono e2 p2) s2 (q2.bind.mono fun u S3 Hv3 ad3 H3 e3 p3 s3 q3 => ?_)
  have r3 := (r1.mono e2 p2).mono e3 p3
  unfold hSl at q3
  split at q3
  · rename_i ns
    cases r3 with
    | scr hq => exact ⟨_, _, rfl, ex_l s3.ex hq, fun p hp => q3.made s3 hp (.lst upd_same (((reps_ints ns).cut l u).mono (Ex.new (s3.ex.nn hp))))⟩
  · split at q3
    · rename_i ds e
      obtain ⟨p, xs, rfl, h1, rs⟩ := lst_at s3 r3 e
      exact ⟨p, xs, rfl, .inl (.inl h1), fun p hp => q3.made s3 hp (.lst upd_same ((rs.cut l u).mono (Ex.new (s3.ex.nn hp))))⟩
    · exact q3.elim
/-! ### xs[i] = v of a list at a place of the store -/
def gItem (fo fi : Ev A) : A → Ev Env := fun a env S => match a with
  | .val d => (fo env S).bind fun o S1 => (fi env S1).bind fun i S2 => match o, i with
    | .loc n, .val (.int k) => (match S2[n]? with
      | some (some (.lst ds)) => (match ixN ds.length k with
        | some j => .ok env (S2.set n (some (.lst (ds.set j d))))
        | none => .bad)
      | _ => .bad)
    | _, _ => .bad
  | _ => .bad
theorem sg_item {o i : Expr} {fo fi : Ev A} (ho : SE X cl W o fo) (hi : SE X cl W i fi)
    (ha : ∀ v, assign (.Subscript o i pos) X.env v = (do
      let ov ← holding [v] (eval o X.env)
      let iv ← holding [v, ov] (eval i X.env)
      standAt pos
      holding [v, ov, iv] (setItem ov iv v)
      release [v, ov, iv] []) := by intro _; rfl) : SG X cl W (.Subscript o i pos) (gItem fo fi) := by
  obtain ⟨_, po, ro⟩ := ho.ex
  obtain ⟨_, pi, ri⟩ := hi.ex
  refine ⟨_, pg_sub po pi set_list ha, fun σ Hv H S ad env v a Q re so r q => ?_⟩
  unfold gItem at q
  cases a with
  | loc n => exact q.elim
  | fv k => exact q.elim
  | val d =>
    refine ro σ Hv H S ad env _ re so (Pst.mono (Pst.bind q) fun z S1 Hv1 ad1 H1 e1 p1 s1 q1 v1 r1 => ?_)
    refine ri σ Hv1 H1 S1 ad1 env _ (re.mono e1 p1) s1 (q1.bind.mono fun w S2 Hv2 ad2 H2 e2 p2 s2 q2 v2 r2 => ?_)
    split at q2
    · rename_i n k
      split at q2
      · rename_i ds e
        split at q2
        · rename_i j ej
          obtain ⟨p, rfl, hp⟩ := r1.mono e2 p2
          cases r2
          obtain ⟨p', g1, g2, xs, g3, g4⟩ := s2.at_ n _ e
          rw [hp] at g1
          cases g1
          exact ⟨p, xs, k, j, rfl, rfl, g3, by rw [g4.length]; exact ej, q2 Hv2 ad2 _ (Ex.refl _) (Pre.refl _) (s2.write (c' := .lst (ds.set j d)) e hp ⟨_, upd_same, g4.set (Rep.mono (e1.trans e2) r) j⟩) σ ((re.mono e1 p1).mono e2 p2)⟩
        · exact q2.elim
      · exact q2.elim
    · exact q2.elim
/-! ### xs.append(e) -/
def eAppend (fo fe : Ev A) : Ev A := fun env S => (fo env S).bind fun o S1 => match lst? S1 o with
  | some _ => (fe env S1).bind fun a S2 => (match o, a with
    | .loc n, .val d => (match S2[n]? with
      | some (some (.lst ds)) => if ds.length < 100000 then .ok (.val .non) (S2.set n (some (.lst (ds ++ [d])))) else .bad
      | _ => .bad)
    | _, _ => .bad)
  | none => .bad
theorem se_append {o e : Expr} {fo fe : Ev A} {apos cpos : Pos} (ho : SE X cl W o fo) (he : SE X cl W e fe) (hbase : attributeBase o "append" X.env (eval o X.env) = eval o X.env := by rfl)
    (hfew : ((backTo cpos (starEach [e] X.env)).all (fun x => !x.1) && (backToKw cpos (keywordEach [] X.env)).all (fun x => x.1.isSome)
      && decide (([e] : List Expr).length + ([] : List Keyword).length + (if ([] : List Keyword).isEmpty then 0 else 1) < 30)) = true := by rfl)
    (hline : (apos.endLine == cpos.line) = true := by rfl) (hs : starEach [e] X.env = (false, eval e X.env) :: starEach [] X.env := by rfl) (hplain : (backTo cpos (starEach [] X.env)).any (·.1) = false := by rfl) :
    SE X cl W (.Call (.Attribute o "append" apos) [e] [] cpos) (eAppend fo fe) := by
  obtain ⟨_, po, ro⟩ := ho.ex
  obtain ⟨_, pe, re'⟩ := he.ex
  refine ⟨_, pe_bm PySem.F.plainAttrs_list PySem.F.slot_list_append PySem.F.type_list_append mt_append po (pa_cons pe pa_nil hs) hbase hfew hline hs hplain, fun σ Hv H S ad env Q re so q => ?_⟩
  refine ro σ Hv H S ad env _ re so (q.bind.mono fun z S1 Hv1 ad1 H1 e1 p1 s1 q1 v1 r1 => ?_)
  split at q1
  · rename_i ds0 e0
    obtain ⟨p0, xs0, rfl, h0, _⟩ := lst_at s1 r1 e0
    refine ⟨.inl ⟨rfl, xs0, .inl (.inl h0)⟩, re' σ Hv1 H1 S1 ad1 env _ (re.mono e1 p1) s1 (q1.bind.mono fun w S2 Hv2 ad2 H2 e2 p2 s2 q2 v2 r2 => ?_)⟩
    split at q2
    · rename_i n d
      split at q2
      · rename_i ds ee
        split at q2
        · rename_i hz
          obtain ⟨p, e3, hp⟩ := r1.mono e2 p2
          cases e3
          obtain ⟨p', g1, g2, xs, g3, g4⟩ := s2.at_ n _ ee
          rw [hp] at g1
          cases g1
          exact ⟨p0, xs, v2, rfl, rfl, g3, Nat.lt_of_lt_of_le (by rw [g4.length]; exact hz) (by decide), q2 Hv2 ad2 _ (Ex.refl _) (Pre.refl _) (s2.write (c' := .lst (ds ++ [d])) ee hp ⟨_, upd_same, g4.append (.cons r2 .nil)⟩) .non .non⟩
        · exact q2.elim
      · exact q2.elim
    · exact q2.elim
  · exact q1.elim
end

/-! ### calls of built-ins -/
section
variable {X : Cx} {cl : CL} {W : WX} {e : Expr} {es : List Expr} {x : Str} {id T : String} {p pos : Pos} {h : List A → Store → Out A} {f : Ev (List A)}
theorem se_callB (hc : ∃ r, CallR X (.builtin id) r ∧ RdC X.K cl W r h) (hm : X.mg x = none) (ha : SA X cl W (e :: es) f) (hv : bootBuiltins x = some (.builtin id) := by decide +kernel) (hg : Gl X x := by rfl) (hn : x ≠ "__name__" := by decide) (hdb : (x == ("__debug__" : Str)) = false := by decide)
    (he : starEach (e :: es) X.env = (false, eval e X.env) :: starEach es X.env := by rfl) (hpl : (backTo pos (starEach es X.env)).any (·.1) = false := by rfl) : SE X cl W (.Call (.Name x p) (e :: es) [] pos) (eApp h f) := by
  obtain ⟨_, hc, rc⟩ := hc
  obtain ⟨_, pa, ra⟩ := ha.ex
  exact ⟨_, pe_callB hc hg hm hv pa hn hdb he hpl, fun σ Hv H S ad env Q re so q => ra σ Hv H S ad env _ re so (q.bind.mono fun as S1 Hv1 ad1 H1 e1 p1 s1 q1 vs r1 => rc σ Hv1 H1 S1 ad1 vs as Q s1 r1 q1)⟩
theorem se_callT (hc : ∃ r, CallR X (.type T) r ∧ RdC X.K cl W r h) (hm : X.mg x = none) (ha : SA X cl W (e :: es) f) (hv : bootBuiltins x = some (.type T) := by decide +kernel) (hg : Gl X x := by rfl) (hn : x ≠ "__name__" := by decide) (hdb : (x == ("__debug__" : Str)) = false := by decide)
    (he : starEach (e :: es) X.env = (false, eval e X.env) :: starEach es X.env := by rfl) (hpl : (backTo pos (starEach es X.env)).any (·.1) = false := by rfl) : SE X cl W (.Call (.Name x p) (e :: es) [] pos) (eApp h f) := by
  obtain ⟨_, hc, rc⟩ := hc
  obtain ⟨_, pa, ra⟩ := ha.ex
  exact ⟨_, pe_callTy hc hg hm hv pa hn hdb he hpl, fun σ Hv H S ad env Q re so q => ra σ Hv H S ad env _ re so (q.bind.mono fun as S1 Hv1 ad1 H1 e1 p1 s1 q1 vs r1 => rc σ Hv1 H1 S1 ad1 vs as Q s1 r1 q1)⟩
def hLen (as : List A) (S : Store) : Out A := match as with
  | [a] => (match lst? S a with
    | some ds => .ok (.val (.int ds.length)) S
    | none => match tup? a with
      | some ds => .ok (.val (.int ds.length)) S
      | none => match a with
        | .val (.str z) => if z.length ≤ 100000 then .ok (.val (.int z.length)) S else .bad
        | _ => .bad)
  | _ => .bad
theorem b_len : ∃ r, CallR X (.builtin "len") r ∧ RdC X.K cl W r hLen := by
  refine ⟨_, CallR.or call_len_seq call_len_str, fun σ Hv H S ad xs as Q so rs q => ?_⟩
  unfold hLen at q
  split at q
  · rename_i a
    obtain ⟨v, rfl, r1⟩ := rep1 rs
    split at q
    · rename_i ds e
      obtain ⟨p, ys, rfl, h1, r2⟩ := lst_at so r1 e
      refine .inl ⟨p, ys, rfl, .inl (.inl (.inl h1)), ?_⟩
      rw [r2.length]
      exact q.here so _ .int
    · split at q
      · rename_i ds e
        obtain ⟨p, ys, rfl, h1, r2⟩ := tup_at so r1 e
        refine .inl ⟨p, ys, rfl, .inr h1, ?_⟩
        rw [r2.length]
        exact q.here so _ .int
      · split at q
        · rename_i z _ _
          cases r1
          split at q
          · rename_i hz
            exact .inr ⟨z, rfl, sz_of hz, q.here so _ .int⟩
          · exact q.elim
        · exact q.elim
  · exact q.elim
def hList (as : List A) (S : Store) : Out A := match as with
  | [a] => (match lst? S a with
    | some ds => .ok (.val (.lst ds)) S
    | none => match tup? a with
      | some ds => .ok (.val (.lst ds)) S
      | none => .bad)
  | _ => .bad
theorem b_list : ∃ r, CallR X (.type "list") r ∧ RdC X.K cl W r hList := by
  refine ⟨_, call_list_of, fun σ Hv H S ad xs as Q so rs q => ?_⟩
  unfold hList at q
  split at q
  · rename_i a
    obtain ⟨v, rfl, r1⟩ := rep1 rs
    split at q
    · rename_i ds e
      obtain ⟨p, ys, rfl, h1, r2⟩ := lst_at so r1 e
      exact ⟨p, ys, rfl, .inl (.inl (.inl h1)), fun l hl => q.made so hl (.lst upd_same (r2.mono (Ex.new (so.ex.nn hl))))⟩
    · split at q
      · rename_i ds e
        obtain ⟨p, ys, rfl, h1, r2⟩ := tup_at so r1 e
        exact ⟨p, ys, rfl, .inr h1, fun l hl => q.made so hl (.lst upd_same (r2.mono (Ex.new (so.ex.nn hl))))⟩
      · exact q.elim
  · exact q.elim
def hTuple (as : List A) (S : Store) : Out A := match as with
  | [a] => (match lst? S a with
    | some ds => .ok (.val (.tup ds)) S
    | none => match tup? a with
      | some ds => .ok (.val (.tup ds)) S
      | none => .bad)
  | _ => .bad
theorem b_tuple : ∃ r, CallR X (.type "tuple") r ∧ RdC X.K cl W r hTuple := by
  refine ⟨_, call_tuple_of, fun σ Hv H S ad xs as Q so rs q => ?_⟩
  unfold hTuple at q
  split at q
  · rename_i a
    obtain ⟨v, rfl, r1⟩ := rep1 rs
    split at q
    · rename_i ds e
      obtain ⟨p, ys, rfl, h1, r2⟩ := lst_at so r1 e
      exact ⟨p, ys, rfl, .inl ⟨.inl (.inl h1), fun l hl => q.made so hl (.tup (.inl (.inl upd_same)) (r2.mono (Ex.new (so.ex.nn hl))))⟩⟩
    · split at q
      · rename_i ds e
        cases a with
        | loc n => cases e
        | fv k => cases e
        | val d =>
          cases d <;> first
            | (cases e; cases r1 with | tup h rs' => exact ⟨_, _, rfl, .inr ⟨ex_t so.ex h, q.here so _ (.tup h rs')⟩⟩)
            | cases e
      · exact q.elim
  · exact q.elim
def hIntC (as : List A) (S : Store) : Out A := match as with
  | [.val (.int i)] => .ok (.val (.int i)) S
  | [.val (.bl k)] => .ok (.val (.int (if k then 1 else 0))) S
  | _ => .bad
theorem b_int : ∃ r, CallR X (.type "int") r ∧ RdC X.K cl W r hIntC := by
  refine ⟨_, call_int1, fun σ Hv H S ad xs as Q so rs q => ?_⟩
  unfold hIntC at q
  split at q
  · obtain ⟨v, rfl, r1⟩ := rep1 rs
    cases r1
    exact .inl ⟨_, rfl, q.here so _ .int⟩
  · obtain ⟨v, rfl, r1⟩ := rep1 rs
    cases r1
    exact .inr ⟨_, rfl, q.here so _ .int⟩
  · exact q.elim
def hAbs (as : List A) (S : Store) : Out A := match as with
  | [.val (.int i)] => .ok (.val (.int (if i < 0 then -i else i))) S
  | _ => .bad
theorem b_abs : ∃ r, CallR X (.builtin "abs") r ∧ RdC X.K cl W r hAbs := by
  refine ⟨_, call_abs, fun σ Hv H S ad xs as Q so rs q => ?_⟩
  unfold hAbs at q
  split at q
  · obtain ⟨v, rfl, r1⟩ := rep1 rs
    cases r1
    exact ⟨_, rfl, q.here so _ .int⟩
  · exact q.elim
end
end R


namespace R
open PySem L2

/-! ### the head's facts, with one more Bool -/
/-- what the names reach in n steps, and the interpreter's own statics -/
def asR (g : Addr → Option Obj) (n : Nat) : List Addr := He.asD g n ++ [PySem.cStatics]
abbrev AlR : Type := Bool × List He.FnW
def obsR (fa : List He.Fa) (fn : List He5.DefA) (ex : PySem.W.Frag → Bool) (K : PySem.W.Frag) : AlR := ((fa.all fun f => f.ok K) && ((fn.all fun d => d.ok K) && ex K), fn.map fun d => He5.fnA K (d.at_ K))
def valR (fn : List He5.DefA) : AlR := (true, fn.map He5.DefA.val)
def SaysR (fa : List He.Fa) (fn : List He5.DefA) (ex : PySem.W.Frag → Bool) (K : PySem.W.Frag) : Prop := obsR fa fn ex K = valR fn
def smB (g : Addr → Option Obj) : Bool := match g sysModules with
  | some o => decide (o.cls = .type "dict")
  | none => false
def obsRG (n : Nat) (fa : List He.Fa) (fn : List He5.DefA) (tf : List He.Defn) (ex : PySem.W.Frag → Bool) (g : Addr → Option Obj) : Bool × AlR := (smB g && He.tabsB g tf (He.frT g (asR g n)), obsR fa fn ex (He.frT g (asR g n)))
theorem sm_of {g : Addr → Option Obj} (h : smB g = true) : ∃ o, g sysModules = some o ∧ o.cls = .type "dict" := by
  unfold smB at h
  split at h
  · rename_i o e
    exact ⟨o, e, of_decide_eq_true h⟩
  · cases h
/-- the defs' tables: empty, not in K -/
structure TabK (tf : List He.Defn) (h : Heap) (K : PySem.W.Frag) : Prop where
  hd : ∀ p ∈ tf, PySem.W.codeHdIn K (He.cT K p).1 (He.cT K p).2 = true
  out : ∀ p ∈ tf, K.lookup (He.cT K p).2 = none
  empty : ∀ p ∈ tf, h.get? (He.cT K p).2 = some { cls := .none, data := .fields #[] }
theorem tabK_of {n : Nat} {tf : List He.Defn} {h : Heap} (e : He.tabsB h.get? tf (He.frT h.get? (asR h.get? n)) = true) : TabK tf h (He.frT h.get? (asR h.get? n)) := by
  have key : ∀ p ∈ tf, PySem.W.codeHdIn (He.frT h.get? (asR h.get? n)) (He.cT (He.frT h.get? (asR h.get? n)) p).1 (He.cT (He.frT h.get? (asR h.get? n)) p).2 = true ∧
      ∃ o, h.get? (He.cT (He.frT h.get? (asR h.get? n)) p).2 = some o ∧ He.emptyTab o = true := fun p hp => by
    obtain ⟨h3, h4⟩ := He.ba (List.all_eq_true.mp e p hp)
    refine ⟨h3, ?_⟩
    split at h4
    · rename_i o q
      exact ⟨o, q, h4⟩
    · cases h4
  refine ⟨fun p hp => (key p hp).1, fun p hp => ?_, fun p hp => ?_⟩
  · obtain ⟨_, o, q, z⟩ := key p hp
    exact He.frT_none q z
  · obtain ⟨_, o, q, z⟩ := key p hp
    rw [q, He.emptyTab_eq z]
def hookR (n : Nat) (fa : List He.Fa) (fn : List He5.DefA) (tf : List He.Defn) (ex : PySem.W.Frag → Bool) : PySem.W.Hook where
  α := Bool × AlR
  obs := fun s => obsRG n fa fn tf ex s.heap.get?
  val := fun _ => (true, valR fn)
  says := fun _ h => ∃ K : PySem.W.Frag, K.In h ∧ SaysR fa fn ex K ∧ TabK tf h K ∧ ∃ o, h.get? sysModules = some o ∧ o.cls = .type "dict"
  of := fun _ _ e => ⟨_, He.frT_in, congrArg (fun z : Bool × AlR => z.2) e, tabK_of (He.ba (congrArg (fun z : Bool × AlR => z.1) e)).2, sm_of (He.ba (congrArg (fun z : Bool × AlR => z.1) e)).1⟩
  keeps := fun _ _ _ ⟨K, hK, c, t, o, ho, hl⟩ k => ⟨K, PySem.W.Frag.In.keeps hK k, c, ⟨t.hd, t.out, fun p hp => k _ _ (t.empty p hp)⟩, o, k _ _ ho, hl⟩
theorem obsRG_eq {n : Nat} {fa : List He.Fa} {fn : List He5.DefA} {tf : List He.Defn} {ex : PySem.W.Frag → Bool} {g : Addr → Option Obj} {s : Shared} (h : ∀ a, g a = s.heap.get? a) : obsRG n fa fn tf ex g = (hookR n fa fn tf ex).obs s := by
  have e : g = s.heap.get? := funext h
  rw [e] <;> rfl
section
variable {fa : List He.Fa} {fn : List He5.DefA} {ex : PySem.W.Frag → Bool} {K : PySem.W.Frag}
theorem SaysR.fact (c : SaysR fa fn ex K) (i : Nat) {f : He.Fa} (h : fa[i]? = some f := by rfl) : f.ok K = true := by
  have c1 := (He.ba (show ((fa.all fun f => f.ok K) && ((fn.all fun d => d.ok K) && ex K)) = true from congrArg (fun z : AlR => z.1) c)).1
  exact List.all_eq_true.mp c1 f (List.mem_of_getElem? h)
theorem SaysR.more (c : SaysR fa fn ex K) : ex K = true :=
  (He.ba (He.ba (show ((fa.all fun f => f.ok K) && ((fn.all fun d => d.ok K) && ex K)) = true from congrArg (fun z : AlR => z.1) c)).2).2
theorem SaysR.def_ (c : SaysR fa fn ex K) (i : Nat) {d : He5.DefA} (h : fn[i]? = some d := by rfl) : ∃ fd, FunD K d.name d.qual d.params d.body d.scope (d.dvs K) (d.kws K) (d.at_ K) fd := by
  have c2 := (He.ba (He.ba (show ((fa.all fun f => f.ok K) && ((fn.all fun d => d.ok K) && ex K)) = true from congrArg (fun z : AlR => z.1) c)).2).1
  have e : fn.map (fun d => He5.fnA K (d.at_ K)) = fn.map He5.DefA.val := congrArg (fun z : AlR => z.2) c
  have e2 : (fn.map fun d => He5.fnA K (d.at_ K))[i]? = (fn.map He5.DefA.val)[i]? := by rw [e]
  rw [List.getElem?_map, List.getElem?_map, h] at e2
  exact He5.DefA.funD (Option.some.inj e2) (List.all_eq_true.mp c2 d (List.mem_of_getElem? h))
end
/-- what the text's top has left -/
structure Tx (fa : List He.Fa) (fn : List He5.DefA) (ex : PySem.W.Frag → Bool) (K : PySem.W.Frag) (mg : Str → Option Value) : Prop where
  h : ∃ h : Heap, K.In h ∧ h.Ns mainGlobals mg
  c : SaysR fa fn ex K
section
variable {fa : List He.Fa} {fn : List He5.DefA} {ex : PySem.W.Frag → Bool} {K : PySem.W.Frag} {mg : Str → Option Value}
theorem Tx.glo (T : Tx fa fn ex K mg) (i : Nat) {x : Str} (h : fa[i]? = some (.glo x) := by rfl) : mg x = some (.ref (He.ga K x)) := let ⟨_, X, G⟩ := T.h; He.glo_ok X G (T.c.fact i h)
theorem Tx.free (T : Tx fa fn ex K mg) (i : Nat) {x : Str} (h : fa[i]? = some (.free x) := by rfl) : mg x = none := let ⟨_, X, G⟩ := T.h; He.free_ok X G (T.c.fact i h)
theorem Tx.int (T : Tx fa fn ex K mg) (i : Nat) {x : Str} {n : Int} (h : fa[i]? = some (.int x n) := by rfl) : ∃ t, mg x = some (.int n t) := let ⟨_, X, G⟩ := T.h; He.int_ok X G (T.c.fact i h)
theorem Tx.str (T : Tx fa fn ex K mg) (i : Nat) {x z : Str} (h : fa[i]? = some (.str x z) := by rfl) : ∃ t, mg x = some (.str z t) := let ⟨_, X, G⟩ := T.h; He.str_ok X G (T.c.fact i h)
end

/-- the same with the tables of the defs that make lambdas -/
structure TXB (fa : List He.Fa) (fn : List He5.DefA) (tf : List He.Defn) (ex : PySem.W.Frag → Bool) (K : PySem.W.Frag) (mg : Str → Option Value) (base : Heap) : Prop extends Tx fa fn ex K mg where
  tb : ∀ p ∈ tf, LamX.TabB base mg (He.cT K p).1 (He.cT K p).2
/-- a def of the module keeps what g says -/
structure FnR (P : Program) (w : World) (K : PySem.W.Frag) (mg : Str → Option Value) (base : Heap) (cl : CL) (k : Nat) (f : Addr) (ps : List Str) (g : List A → Store → Out A) : Prop where
  ex : ∃ fd, Binds K fd ps [] ∧ PySem.W.keepIn K (.ref f) = true ∧ FnG P w K mg base k f fd ps (SpF K cl ps.length g)
section
variable {P : Program} {w : World} {K : PySem.W.Frag} {mg : Str → Option Value} {base : Heap} {cl : CL}
theorem fnR_mk {x qual : Str} {params : Arguments} {body : List Stmt} {scope : Scope} {f : Addr} {N ps : List Str} {k : Nat} {fb : Sv} (F : ∃ fd, FunD K x qual params body scope [] [] f fd) (S : FnScope N ps scope)
    (hbn : ∀ (kV doc pm : Value) (an : Option Addr) (cdv ct : Value) (us : List Value), us.length = ps.length → bindArgs (PySem.W.fnOf x qual params body scope .none kV doc pm an cdv ct) ⟨us, []⟩ = pure (ps.zip us))
    (hb : ∀ (cdv : Value) (A : Around) (outer : List PySem.Env) (s : Shared) (H : Hp) (E : XK), Room k (A.deeper (PyProof.Rows.envOfC qual scope s.heap.objs.size f cdv)) → Bx (cxOf (L2.CX P w) P w K mg base N qual scope f cdv A outer s H E) (fun c d _ H' => E c d H') →
      SSs (cxOf (L2.CX P w) P w K mg base N qual scope f cdv A outer s H E) cl (fun c d _ H' => E c d H') body fb) : FnR P w K mg base cl (k + 1) f ps (defF N.length fb) :=
  let ⟨fd, F⟩ := F
  ⟨fd, F.bindsN hbn, F.kp, fn_def F S hb⟩
theorem FnR.mono {k k' : Nat} {f : Addr} {ps : List Str} {g : List A → Store → Out A} (h : FnR P w K mg base cl k f ps g) (hk : k ≤ k') : FnR P w K mg base cl k' f ps g := let ⟨fd, a, b, c⟩ := h.ex; ⟨fd, a, b, c.mono hk⟩
end
section
variable {X : Cx} {cl : CL} {W : WX} {k : Nat} {f : Addr} {ps : List Str} {g : List A → Store → Out A} {x : Str} {p pos : Pos} {e : Expr} {es : List Expr}
/-- f(e, ..) -/
theorem se_fn {fa : Ev (List A)} {n : Nat} (F : FnR X.prog X.w X.K X.mg X.base cl k f ps g) (B : Bx X W) (hr : Room k X.A) (hm : X.mg x = some (.ref f)) (ha : SA X cl W (e :: es) fa) (hn : ps.length = n := by rfl) (hg : Gl X x := by rfl) (hdb : (x == ("__debug__" : Str)) = false := by decide)
    (he : starEach (e :: es) X.env = (false, eval e X.env) :: starEach es X.env := by rfl) (hpl : (backTo pos (starEach es X.env)).any (·.1) = false := by rfl) :
    SE X cl W (.Call (.Name x p) (e :: es) [] pos) (eApp (callG n g []) fa) := by
  obtain ⟨fd, hb, hk, F⟩ := F.ex
  subst hn
  exact se_call F B hr hm hk hb .nil (fun _ _ => .nil) ha hg hdb he hpl
theorem se_fn0 {n : Nat} (F : FnR X.prog X.w X.K X.mg X.base cl k f ps g) (B : Bx X W) (hr : Room k X.A) (hm : X.mg x = some (.ref f)) (hn : ps.length = n := by rfl) (hg : Gl X x := by rfl) (hdb : (x == ("__debug__" : Str)) = false := by decide) :
    SE X cl W (.Call (.Name x p) [] [] pos) (eApp (callG n g []) eNil) := by
  obtain ⟨fd, hb, hk, F⟩ := F.ex
  subst hn
  exact se_call0 F B hr hm hk hb .nil (fun _ _ => .nil) hg hdb
/-- a module's number, text -/
theorem se_gint {n : Int} (h : ∃ t, X.mg x = some (.int n t)) (hg : Gl X x := by rfl) (hd : (x == ("__debug__" : Str)) = false := by decide) : SE X cl W (.Name x pos) (eC (.int n)) := let ⟨t, h⟩ := h; ⟨_, pe_glob (v := .int n) hg h ⟨t, rfl⟩ hd, rd_c fun _ => .int⟩
theorem se_gstr {z : Str} (h : ∃ t, X.mg x = some (.str z t)) (hg : Gl X x := by rfl) (hd : (x == ("__debug__" : Str)) = false := by decide) : SE X cl W (.Name x pos) (eC (.str z)) := let ⟨t, h⟩ := h; ⟨_, pe_glob (v := .str z) hg h ⟨t, rfl⟩ hd, rd_c fun _ => .str⟩
/-- a block's context: nothing is let out -/
theorem bx_blk {s : Shared} {H : Hp} {scope : Scope} {cenv : PySem.Env} {fp : List Addr} (B : Bx X W) : Bx (X.blk s H scope cenv fp) WF := ⟨takes0, PassesOwn.never, B.gd⟩
end
end R


namespace R
open PySem L2

/-! ### an own exception class: the facts as one Bool -/
def oexB (K : PySem.W.Frag) (C : Addr) : Bool := (match K.lookup C with
  | some ⟨.type "type", _, .cls cd, sl⟩ => (match cd.mro, sl.toList with
    | .ref C' :: bm, [_, _, _, _, some (.builtin n), _] => C' == C && (n == "ValueError.__new__" && (!cd.hasDel && (cd.hasDict && PySem.HandSPX.refsVE bm)))
    | _, _ => false)
  | _ => false) &&
  (decide (PySem.W.findIn K (.ref C) "__setattr__" = some (some (.builtin "object.__setattr__"))) && (decide (PySem.W.subIn K (.ref C) (.type "BaseException") = some true) && (decide (PySem.W.typeIn K (.ref C) = some (.type "type")) && PySem.W.keepIn K (.ref C))))
theorem oexB_ok {K : PySem.W.Frag} {C : Addr} (h : oexB K C = true) : OexC K C := by
  unfold oexB at h
  obtain ⟨h1, h⟩ := Bool.and_eq_true_iff.mp h
  obtain ⟨h2, h⟩ := Bool.and_eq_true_iff.mp h
  obtain ⟨h3, h⟩ := Bool.and_eq_true_iff.mp h
  obtain ⟨h4, h5⟩ := Bool.and_eq_true_iff.mp h
  refine ⟨?_, of_decide_eq_true h2, of_decide_eq_true h3, of_decide_eq_true h4, h5⟩
  split at h1
  · rename_i dd cd sl ho
    split at h1
    · rename_i C' bm k0 k1 k2 k3 n k5 hm hs
      simp only [Bool.and_eq_true, beq_iff_eq, Bool.not_eq_true'] at h1
      obtain ⟨rfl, rfl, hdel, hdct, ht⟩ := h1
      obtain ⟨nm, bs, mro, ns, qn, hd, sn, sub, ab, col, del⟩ := cd
      dsimp only at hm hdel hdct
      subst hm hdel hdct
      have hsl : sl = #[k0, k1, k2, k3, some (.builtin "ValueError.__new__"), k5] := by
        obtain ⟨l⟩ := sl
        simp only at hs
        rw [hs]
      subst hsl
      exact ⟨nm, qn, ns, bs, bm, sn, sub, ab, col, dd, k0, k1, k2, k3, k5, ho, ht⟩
    · cases h1
  · cases h1
/-- how isinstance and attributes see it -/
structure ExcK (K : PySem.W.Frag) (D : Addr) : Prop where
  cl : (PySem.W.clsIn K D).isSome = true
  hg : PySem.W.findIn K (.ref D) "__getattribute__" = some (some (.builtin "BaseException.__getattribute__"))
  hk : PySem.W.findIn K (.ref D) "__getattr__" = some none
  hs : PySem.W.subIn K (.ref D) (.type "BaseException") = some true
  hd : PySem.W.hasDictIn K D = true
  ha : PySem.W.findIn K (.ref D) "__class__" = some (some (.builtin "object.__class__"))
  hn : PySem.W.specialIn K (.builtin "object.__class__") "__get__" = some (some (.builtin "getset_descriptor.__get__"))
  ht : PySem.W.takesIn K (.builtin "object.__class__") = some true
  hm : PySem.W.mroIn K D (.type "object") = some true
def excKB (K : PySem.W.Frag) (D : Addr) : Bool := (PySem.W.clsIn K D).isSome && (decide (PySem.W.findIn K (.ref D) "__getattribute__" = some (some (.builtin "BaseException.__getattribute__"))) && (decide (PySem.W.findIn K (.ref D) "__getattr__" = some none) && (decide (PySem.W.subIn K (.ref D) (.type "BaseException") = some true) && (PySem.W.hasDictIn K D &&
  (decide (PySem.W.findIn K (.ref D) "__class__" = some (some (.builtin "object.__class__"))) && (decide (PySem.W.specialIn K (.builtin "object.__class__") "__get__" = some (some (.builtin "getset_descriptor.__get__"))) && (decide (PySem.W.takesIn K (.builtin "object.__class__") = some true) && decide (PySem.W.mroIn K D (.type "object") = some true))))))))
theorem excKB_ok {K : PySem.W.Frag} {D : Addr} (h : excKB K D = true) : ExcK K D := by
  unfold excKB at h
  obtain ⟨h1, h⟩ := Bool.and_eq_true_iff.mp h
  obtain ⟨h2, h⟩ := Bool.and_eq_true_iff.mp h
  obtain ⟨h3, h⟩ := Bool.and_eq_true_iff.mp h
  obtain ⟨h4, h⟩ := Bool.and_eq_true_iff.mp h
  obtain ⟨h5, h⟩ := Bool.and_eq_true_iff.mp h
  obtain ⟨h6, h⟩ := Bool.and_eq_true_iff.mp h
  obtain ⟨h7, h⟩ := Bool.and_eq_true_iff.mp h
  obtain ⟨h8, h9⟩ := Bool.and_eq_true_iff.mp h
  exact ⟨h1, of_decide_eq_true h2, of_decide_eq_true h3, of_decide_eq_true h4, h5, of_decide_eq_true h6, of_decide_eq_true h7, of_decide_eq_true h8, of_decide_eq_true h9⟩

/-! ### C(e, ..) as a value -/
def tOexV (C : Addr) (sp : Sp) (ta : TA) : TE := fun σ H Q => ta σ H fun vs H1 => vs.length ≤ 1000 ∧ ∀ a, H1 a = none → sp (.ref a :: vs) (upd H1 a (exo a C none)) (fun v H2 => v = .non ∧ Q (.ref a) H2) (fun _ _ _ => False)
section
variable {X : Cx} {e : Expr} {es : List Expr} {kws : List Keyword} {ta tk : TA} {p pos : Pos} {x : Str} {C fI : Addr} {k : Nat} {fd : FuncData} {ps : List Str} {sp : Sp} {W : WX}
theorem run_oexV {pins : List (Addr × Obj)} {σ : St} {H1 : Hp} {s1 : Shared} {Q : VK} {us : List Value} {vs : List V} (T : OexC X.K C) (iC : PySem.W.findIn X.K (.ref C) "__init__" = some (some (.ref fI))) (tI : PySem.W.typeIn X.K (.ref fI) = some (.type "function"))
    (F1 : FnOk X.prog X.w X.K X.mg X.base (L2.CX X.prog X.w) k fI fd ps sp) (hr : Room (k + 1) X.A) (hb : Binds X.K fd ps []) (I1 : Inv X pins σ H1 s1) (r1 : Vals vs us) (hz : vs.length ≤ 1000)
    (q1 : ∀ a, H1 a = none → sp (.ref a :: vs) (upd H1 a (exo a C none)) (fun v H2 => v = .non ∧ Q (.ref a) H2) (fun _ _ _ => False)) : wpAny (model X.prog X.w) X.A (call (.ref C) us) (EP X pins σ Q) X.xe s1 := by
  obtain ⟨nm, q, N, bs, bm, sn, sub, ab, col, dd, k0, k1, k2, k3, k5, hC, hbm⟩ := T.cls
  obtain ⟨hp, g, dr, tk, os⟩ := s1
  have hsz : hp.objs.size ≤ hp.objs.size + 1 := Nat.le_succ _
  have hn : H1 (hp.objs.size + 1) = none := I1.hok.fresh hsz
  have hq := q1 (hp.objs.size + 1) hn
  have kk : ∀ b o, hp.get? b = some o → ((hp.push (PySem.W.kdv_tup us)).push (PySem.HandSPX.excO C hp.objs.size)).get? b = some o := fun b o e => Heap.get?_push_of_some _ (Heap.get?_push_of_some _ e)
  have hget : ((hp.push (PySem.W.kdv_tup us)).push (PySem.HandSPX.excO C hp.objs.size)).get? (hp.objs.size + 1) = some (PySem.HandSPX.excO C hp.objs.size) := by heap_get
  have I2 : Inv X pins σ (upd H1 (hp.objs.size + 1) (exo (hp.objs.size + 1) C none)) ⟨(hp.push (PySem.W.kdv_tup us)).push (PySem.HandSPX.excO C hp.objs.size), g, dr, tk, os⟩ :=
    I1.laid (t' := tk) (a := hp.objs.size + 1) (o := exo (hp.objs.size + 1) C none) (h' := (hp.push (PySem.W.kdv_tup us)).push (PySem.HandSPX.excO C hp.objs.size)) kk hsz (exo_ok hget)
  have r2 : Vals (V.ref (hp.objs.size + 1) :: vs) (Value.ref (hp.objs.size + 1) :: us) := .cons rfl r1
  have hl : (Value.ref (hp.objs.size + 1) :: us ++ []).length = ps.length := by
    have e := r2.length
    rw [F1.len _ _ _ _ hq] at e
    rw [List.append_nil]
    exact e.symm
  have hus : us.length ≤ sizeLine := by
    rw [← Paired.length r1, sizeLine_eq]
    omega
  have hbb := hb ⟨(hp.push (PySem.W.kdv_tup us)).push (PySem.HandSPX.excO C hp.objs.size), g, dr, tk, os⟩ (Value.ref (hp.objs.size + 1) :: us) I2.kIn hl
  rw [List.append_nil] at hbb
  refine wpAny_call (PySem.HandSPX.call_own F.excBase_ValueError (fun Y => PySem.HandSPX.refsVE_contains Y bm hbm) (I1.kIn _ _ hC) (PySem.W.looks_findIn I1.kIn iC) (fun self => PySem.W.bind_fn I1.kIn self tI) hus
    (codeAny_mono (F1.run _ X.stack _ _ ⟨Value.ref (hp.objs.size + 1) :: us, []⟩ (Value.ref (hp.objs.size + 1) :: us) _ _ (fun _ _ _ => False) (hr.make C us []) (I2.env0.make C us []) hbb r2 hq) fun r s' hq' => ?_))
  cases r with
  | error er => exact (passL (X := X) pins σ _ _ er s' I2 hq')
  | ok fl =>
    cases fl with
    | ret u =>
      obtain ⟨v, H2, J, rv, ev, q2⟩ := I2.after hq'
      subst ev
      exact ⟨rv, ⟨.ref (hp.objs.size + 1), H2, J, rfl, q2⟩⟩
    | next => exact False.elim hq'
    | brk => exact False.elim hq'
    | cont => exact False.elim hq'
theorem pe_oexV (T : OexC X.K C) (iC : PySem.W.findIn X.K (.ref C) "__init__" = some (some (.ref fI))) (tI : PySem.W.typeIn X.K (.ref fI) = some (.type "function"))
    (F1 : FnOk X.prog X.w X.K X.mg X.base (L2.CX X.prog X.w) k fI fd ps sp) (hr : Room (k + 1) X.A) (hb : Binds X.K fd ps []) (hg : Gl X x) (hm : X.mg x = some (.ref C)) (ha : PA X (e :: es) ta)
    (hdb : (x == ("__debug__" : Str)) = false := by decide) (he : starEach (e :: es) X.env = (false, eval e X.env) :: starEach es X.env := by rfl) (hpl : (backTo pos (starEach es X.env)).any (·.1) = false := by rfl) :
    PE X (.Call (.Name x p) (e :: es) [] pos) (tOexV C sp ta) := by
  refine ⟨fun pins s σ H Q I h => ?_⟩
  refine wpAny_Call_Name_kw (ld_glob I hg hm ?_ hdb)
  refine PySem.W.callWith_K (h₀ := X.base) I.ok.mod.kin T.kC (thn (ha.run pos pins s σ H _ I h) fun us s1 ⟨vs, H1, I1, r1, hz, q1⟩ => ⟨I1.kIn, ?_⟩) he hpl
  exact run_oexV T iC tI F1 hr hb I1 r1 hz q1
end

/-! ### what __init__ does: each field is stored -/
/-- newest first, as the layer keeps them -/
def exFs : List Str → List V → List (Str × V)
  | f :: fs, v :: vs => exFs fs vs ++ [(f, v)]
  | _, _ => []
def spX (C : Addr) (ns : List Str) : Sp := fun xs H Q _ => ∃ a vs, xs = .ref a :: vs ∧ vs.length = ns.length ∧ H a = some (exo a C none) ∧ ∀ dx, H dx = none → dx ≠ a → Q .non (upd (upd H dx (exd dx (exFs ns vs))) a (exo a C (some dx)))

section
variable {P : Program} {w : World} {K : PySem.W.Frag} {mg : Str → Option Value} {base : Heap} {qual : Str} {params : Arguments} {body : List Stmt} {scope : Scope} {C fI : Addr} {fd : FuncData}
theorem okX1 {f x : Str} (F : FunD K "__init__" qual params body scope [] [] fI fd) (S : FnScope ["self", x] ["self", x] scope) (T : OexC K C) (hno : PySem.W.findIn K (.ref C) f = some none)
    (hp : ∀ (cdv : Value) (A : Around) (outer : List PySem.Env) (s : Shared) (H : Hp) (E : XK), PSs (cxOf (L2.CX P w) P w K mg base ["self", x] qual scope fI cdv A outer s H E) body (tOst K f (tVar 0) (tVar 1))) :
    FnOk P w K mg base (L2.CX P w) 1 fI fd ["self", x] (spX C [f]) := by
  refine F.ok (k := 0) S (fun vs H Q E h => ?_) fun cdv A outer s H vs Q E hr h => ⟨_, hp cdv A outer s H E, ?_⟩
  · obtain ⟨a, vs, rfl, hl, _⟩ := h
    simp at hl ⊢
    exact hl
  · obtain ⟨a, vs, rfl, hl, ha, q⟩ := h
    match vs, hl with
    | [v], _ => exact ⟨v, rfl, .ref a, rfl, a, C, rfl, T, hno, .inl ⟨ha, fun dx h1 h2 => q dx h1 h2⟩⟩
theorem okX2 {f g x y : Str} (F : FunD K "__init__" qual params body scope [] [] fI fd) (S : FnScope ["self", x, y] ["self", x, y] scope) (T : OexC K C) (hf : PySem.W.findIn K (.ref C) f = some none) (hg : PySem.W.findIn K (.ref C) g = some none)
    (hp : ∀ (cdv : Value) (A : Around) (outer : List PySem.Env) (s : Shared) (H : Hp) (E : XK), PSs (cxOf (L2.CX P w) P w K mg base ["self", x, y] qual scope fI cdv A outer s H E) body (tSeq (tOst K f (tVar 0) (tVar 1)) (tOst K g (tVar 0) (tVar 2)))) :
    FnOk P w K mg base (L2.CX P w) 1 fI fd ["self", x, y] (spX C [f, g]) := by
  refine F.ok (k := 0) S (fun vs H Q E h => ?_) fun cdv A outer s H vs Q E hr h => ⟨_, hp cdv A outer s H E, ?_⟩
  · obtain ⟨a, vs, rfl, hl, _⟩ := h
    simp at hl ⊢
    exact hl
  · obtain ⟨a, vs, rfl, hl, ha, q⟩ := h
    match vs, hl with
    | [v, u], _ =>
      refine ⟨v, rfl, .ref a, rfl, a, C, rfl, T, hf, .inl ⟨ha, fun dx h1 h2 => ?_⟩⟩
      refine ⟨u, rfl, .ref a, rfl, a, C, rfl, T, hg, .inr ⟨dx, [(f, v)], upd_same, by rw [upd_ne h2, upd_same], (by show 1 ≤ 900; decide), ?_⟩⟩
      have e : upd (upd (upd H dx (exd dx [(f, v)])) a (exo a C (some dx))) dx (exd dx ((g, u) :: [(f, v)])) = upd (upd H dx (exd dx (exFs [f, g] [v, u]))) a (exo a C (some dx)) := by
        funext b
        by_cases hb : b = dx
        · subst hb
          rw [upd_same, upd_ne h2, upd_same]
          rfl
        · rw [upd_ne hb]
          by_cases hba : b = a
          · subst hba
            rw [upd_same, upd_same]
          · rw [upd_ne hba, upd_ne hba, upd_ne hb, upd_ne hb]
      have q2 := q dx h1 h2
      rw [← e] at q2
      exact q2
end
/-- the entries named, in that order -/
def permL {α : Type} (p : List Nat) (l : List α) : List α := p.filterMap (l[·]?)
/-- how keywords fill the parameters behind self -/
def KwB (fd : FuncData) (ps : List Str) (b : List Str × List Nat) : Prop := ∀ (s : Shared) (self : Value) (ws : List Value), ws.length = b.1.length → BindsTo s fd ⟨[self], b.1.zip ws⟩ (ps.zip (self :: permL b.2 ws))
/-- an own exception class with fields -/
structure ExR (P : Program) (w : World) (K : PySem.W.Frag) (mg : Str → Option Value) (base : Heap) (C : Addr) (ns : List Str) (kbs : List (List Str × List Nat)) : Prop where
  ex : ∃ fI fd ps, OexC K C ∧ PySem.W.findIn K (.ref C) "__init__" = some (some (.ref fI)) ∧ PySem.W.typeIn K (.ref fI) = some (.type "function") ∧ Binds K fd ps [] ∧ ps.length = ns.length + 1 ∧ FnOk P w K mg base (L2.CX P w) 1 fI fd ps (spX C ns) ∧ ∀ b ∈ kbs, KwB fd ps b
  nd : ns.Nodup
  few : ns.length ≤ 900
theorem FunD.kwB {K : PySem.W.Frag} {x qual : Str} {params : Arguments} {body : List Stmt} {scope : Scope} {kws : List (Str × V)} {f : Addr} {fd : FuncData} {ps : List Str} {b : List Str × List Nat} (F : FunD K x qual params body scope [] kws f fd)
    (h : ∀ (kV doc pm : Value) (an : Option Addr) (cdv ct : Value) (self : Value) (ws : List Value), ws.length = b.1.length → bindArgs (PySem.W.fnOf x qual params body scope .none kV doc pm an cdv ct) ⟨[self], b.1.zip ws⟩ = pure (ps.zip (self :: permL b.2 ws))) : KwB fd ps b := fun s self ws hl => by
  obtain ⟨oc, od, dV, kV, doc, pm, an, cdv, ct, osl, rfl, lk, hcd, hD, hK⟩ := F.ex
  rcases hD with ⟨_, rfl⟩ | ⟨e, _⟩
  · exact .of_eq (h kV doc pm an cdv ct self ws hl)
  · exact absurd rfl e
def hMkX (c : Nat) (ns : List Str) (as : List A) (S : Store) : Out A := match vals? as with
  | some ds => if ds.length = ns.length then .ok (.val (.exc c ns ds)) S else .bad
  | none => .bad
theorem exFs_lookup : ∀ {ns : List Str} {vs : List V}, ns.Nodup → vs.length = ns.length → flds (exFs ns vs) ns = vs ∧ HasF (exFs ns vs) ns := by
  have key : ∀ (ns : List Str) (vs : List V), ns.Nodup → vs.length = ns.length → ∀ (i : Nat) (n : Str) (v : V), ns[i]? = some n → vs[i]? = some v → (exFs ns vs).lookup n = some v := by
    intro ns
    induction ns with
    | nil => intro vs _ _ i n v h; simp at h
    | cons m ns ih =>
      intro vs hd hl i n v h1 h2
      cases vs with
      | nil => simp at h2
      | cons u vs =>
        have hdm := List.nodup_cons.mp hd
        have out : ∀ (ks : List Str) (ws : List V), m ∉ ks → (exFs ks ws).lookup m = none := fun ks => by
          induction ks with
          | nil => intro ws _; cases ws <;> rfl
          | cons k ks ihk =>
            intro ws hk
            cases ws with
            | nil => rfl
            | cons w ws =>
              show (exFs ks ws ++ [(k, w)]).lookup m = none
              rw [List.lookup_append, ihk ws (fun z => hk (List.mem_cons_of_mem _ z))]
              have hmk : (m == k) = false := beq_eq_false_iff_ne.mpr fun z => hk (by rw [z]; exact List.mem_cons_self)
              simp [List.lookup, hmk]
        show (exFs ns vs ++ [(m, u)]).lookup n = some v
        rw [List.lookup_append]
        cases i with
        | zero =>
          simp at h1 h2
          subst h1 h2
          rw [out ns vs hdm.1]
          simp [List.lookup]
        | succ i =>
          rw [ih vs hdm.2 (by simpa using hl) i n v (by simpa using h1) (by simpa using h2)]
          rfl
  intro ns vs hd hl
  constructor
  · unfold flds
    apply List.ext_getElem?
    intro i
    rw [List.getElem?_map]
    cases q : ns[i]? with
    | none =>
      have := List.getElem?_eq_none_iff.mp q
      rw [List.getElem?_eq_none (by omega)]
      rfl
    | some n =>
      have hi := (List.getElem?_eq_some_iff.mp q).1
      obtain ⟨v, hv⟩ : ∃ v, vs[i]? = some v := ⟨vs[i], List.getElem?_eq_getElem (by omega)⟩
      rw [hv, Option.map_some, key ns vs hd hl i n v q hv]
      rfl
  · intro n hn
    obtain ⟨i, hi⟩ := List.getElem?_of_mem hn
    have hl2 := (List.getElem?_eq_some_iff.mp hi).1
    obtain ⟨v, hv⟩ : ∃ v, vs[i]? = some v := ⟨vs[i], List.getElem?_eq_getElem (by omega)⟩
    exact ⟨v, key ns vs hd hl i n v hi hv⟩
theorem exo_is {a C : Addr} {d : Option Addr} : ∃ φ, exo a C d = .ext φ ∧ IsExc φ a C d := ⟨_, rfl, fun h ⟨t, e⟩ => ⟨_, _, e, ⟨rfl, rfl⟩, rfl⟩⟩
section
variable {X : Cx} {cl : CL} {W : WX} {e : Expr} {es : List Expr} {p pos : Pos} {x : Str} {c : Nat} {ns : List Str} {kbs : List (List Str × List Nat)} {f : Ev (List A)}
/-- behind C(e, ..): what stands there -/
theorem mkx_end {σ : St} {Hv H : Hp} {S : Store} {ad : List Addr} {vs : List V} {ds : List D} {Q : VK} {a dx : Addr} (so : StOk X.K cl Hv H S ad) (rs : Reps X.K cl Hv vs ds) (hl : ds.length = ns.length) (nd : ns.Nodup) (h1 : H a = none) (h2 : upd H a (exo a (cl c) none) dx = none) (h3 : dx ≠ a)
    (q : Pst X.K cl W σ Hv ad (RA X.K cl Q) (.ok (.val (.exc c ns ds)) S)) : Q (.ref a) (upd (upd (upd H a (exo a (cl c) none)) dx (exd dx (exFs ns vs))) a (exo a (cl c) (some dx))) := by
  have hdx : H dx = none := by
    rw [upd_ne h3] at h2
    exact h2
  have e : upd (upd (upd H a (exo a (cl c) none)) dx (exd dx (exFs ns vs))) a (exo a (cl c) (some dx)) = upd (upd H dx (exd dx (exFs ns vs))) a (exo a (cl c) (some dx)) := by
    funext b
    by_cases hb : b = a
    · subst hb
      rw [upd_same, upd_same]
    · rw [upd_ne hb, upd_ne hb]
      by_cases hb2 : b = dx
      · subst hb2
        rw [upd_same, upd_same]
      · rw [upd_ne hb2, upd_ne hb2, upd_ne hb]
  rw [e]
  have s1 := so.new (o := exd dx (exFs ns vs)) hdx
  have ha1 : upd H dx (exd dx (exFs ns vs)) a = none := by rw [upd_ne (Ne.symm h3)]; exact h1
  have s2 := s1.new (o := exo a (cl c) (some dx)) ha1
  have ex1 : Ex Hv (upd (upd Hv dx (exd dx (exFs ns vs))) a (exo a (cl c) (some dx))) := (Ex.new (so.ex.nn hdx)).trans (Ex.new (s1.ex.nn ha1))
  refine q _ ad _ ex1 (Pre.refl _) s2 (.ref a) ?_
  obtain ⟨φ, ep, ip⟩ := @exo_is a (cl c) (some dx)
  obtain ⟨g1, g2⟩ := exFs_lookup (vs := vs) nd (by rw [rs.length]; exact hl)
  refine .exc (φ := φ) (dx := dx) (o := exd dx (exFs ns vs)) (fs := exFs ns vs) (by rw [upd_same, ep]) ip (by rw [upd_ne h3, upd_same]) (.inr rfl) g2 ?_
  rw [g1]
  exact rs.mono ex1
theorem se_mkx (F : ExR X.prog X.w X.K X.mg X.base (cl c) ns kbs) (hr : Room 2 X.A) (hm : X.mg x = some (.ref (cl c))) (ha : SA X cl W (e :: es) f) (hg : Gl X x := by rfl)
    (hdb : (x == ("__debug__" : Str)) = false := by decide) (he : starEach (e :: es) X.env = (false, eval e X.env) :: starEach es X.env := by rfl) (hpl : (backTo pos (starEach es X.env)).any (·.1) = false := by rfl) :
    SE X cl W (.Call (.Name x p) (e :: es) [] pos) (eApp (hMkX c ns) f) := by
  obtain ⟨fI, fd, ps, T, iC, tI, hb, hps, F1, _⟩ := F.ex
  obtain ⟨_, pa, ra⟩ := ha.ex
  refine ⟨_, pe_oexV T iC tI F1 hr hb hg hm pa hdb he hpl, fun σ Hv H S ad env Q re so q => ?_⟩
  refine ra σ Hv H S ad env _ re so (q.bind.mono fun as S1 Hv1 ad1 H1 e1 p1 s1 q1 vs r1 => ?_)
  unfold hMkX at q1
  split at q1
  · rename_i ds ed
    have rs := vals_rep r1 ed
    split at q1
    · rename_i hl
      refine ⟨by rw [rs.length, hl]; exact Nat.le_trans F.few (by decide), fun a h1 => ⟨a, vs, rfl, by rw [rs.length]; exact hl, upd_same, fun dx h2 h3 => ⟨rfl, mkx_end s1 rs hl F.nd h1 h2 h3 q1⟩⟩⟩
    · exact q1.elim
  · exact q1.elim
end
end R


namespace R
open PySem L2

/-! ### classes: what the text says of them, by numbers -/
inductive Tag where
  | b (s : String) | o (n : Nat)
  deriving DecidableEq
structure CtT where
  n : Nat
  mro : Nat → List Tag
  exc : Nat → Bool
  fld : Nat → List Str
def baseTys : List String := ["NoneType", "bool", "int", "str", "list", "tuple", "dict"]
def tgtTys : List String := ["str", "int", "bool", "list", "tuple", "dict", "ValueError"]
structure ObK (K : PySem.W.Frag) (C : Addr) : Prop where
  cl : Cls K C
  ha : PySem.W.findIn K (.ref C) "__class__" = some (some (.builtin "object.__class__"))
  hn : PySem.W.specialIn K (.builtin "object.__class__") "__get__" = some (some (.builtin "getset_descriptor.__get__"))
  ht : PySem.W.takesIn K (.builtin "object.__class__") = some true
  hm : PySem.W.mroIn K C (.type "object") = some true
structure CtOk (t : CtT) (K : PySem.W.Frag) (cl : CL) : Prop where
  own : ∀ c, c < t.n → ∀ c', c' < t.n → PySem.W.kitOne K (.ref (cl c)) (.ref (cl c')) = some (decide (Tag.o c' ∈ t.mro c))
  bown : ∀ a ∈ baseTys, ∀ c, c < t.n → PySem.W.kitOne K (.type a) (.ref (cl c)) = some false
  ob : ∀ c, c < t.n → ∀ b ∈ tgtTys, PySem.W.kitOne K (.ref (cl c)) (.type b) = some (decide (Tag.b b ∈ t.mro c))
  exk : ∀ c, c < t.n → t.exc c = true → ExcK K (cl c)
  obk : ∀ c, c < t.n → t.exc c = false → ObK K (cl c)
  noat : ∀ c, c < t.n → ∀ f ∈ t.fld c, PySem.W.findIn K (.ref (cl c)) f = some none
  exm : ∀ c, c < t.n → ∀ c', c' < t.n → t.exc c = true → t.exc c' = true → PySem.W.exmOne K (.ref (cl c)) (.ref (cl c')) = some (decide (Tag.o c' ∈ t.mro c))
def obKB (K : PySem.W.Frag) (C : Addr) : Bool := (PySem.W.plainGet K C Str.empty && (PySem.W.hasDictIn K C && (PySem.W.plainOver K C && decide (PySem.W.findIn K (.ref C) "__setattr__" = some (some (.builtin "object.__setattr__")))))) &&
  (decide (PySem.W.findIn K (.ref C) "__class__" = some (some (.builtin "object.__class__"))) && (decide (PySem.W.specialIn K (.builtin "object.__class__") "__get__" = some (some (.builtin "getset_descriptor.__get__"))) && (decide (PySem.W.takesIn K (.builtin "object.__class__") = some true) && decide (PySem.W.mroIn K C (.type "object") = some true))))
theorem obKB_ok {K : PySem.W.Frag} {C : Addr} (h : obKB K C = true) : ObK K C := by
  unfold obKB at h
  obtain ⟨h0, h⟩ := Bool.and_eq_true_iff.mp h
  obtain ⟨a1, h0⟩ := Bool.and_eq_true_iff.mp h0
  obtain ⟨a2, h0⟩ := Bool.and_eq_true_iff.mp h0
  obtain ⟨a3, a4⟩ := Bool.and_eq_true_iff.mp h0
  obtain ⟨h6, h⟩ := Bool.and_eq_true_iff.mp h
  obtain ⟨h7, h⟩ := Bool.and_eq_true_iff.mp h
  obtain ⟨h8, h9⟩ := Bool.and_eq_true_iff.mp h
  exact ⟨⟨a1, a2, a3, of_decide_eq_true a4⟩, of_decide_eq_true h6, of_decide_eq_true h7, of_decide_eq_true h8, of_decide_eq_true h9⟩
def ctB (t : CtT) (cl : PySem.W.Frag → CL) (K : PySem.W.Frag) : Bool := (List.range t.n).all fun c =>
  ((List.range t.n).all fun c' => !(t.exc c && t.exc c') || decide (PySem.W.exmOne K (.ref (cl K c)) (.ref (cl K c')) = some (decide (Tag.o c' ∈ t.mro c)))) &&
  (((List.range t.n).all fun c' => decide (PySem.W.kitOne K (.ref (cl K c)) (.ref (cl K c')) = some (decide (Tag.o c' ∈ t.mro c)))) &&
  ((baseTys.all fun a => decide (PySem.W.kitOne K (.type a) (.ref (cl K c)) = some false)) &&
  ((tgtTys.all fun b => decide (PySem.W.kitOne K (.ref (cl K c)) (.type b) = some (decide (Tag.b b ∈ t.mro c)))) &&
  ((if t.exc c then excKB K (cl K c) else obKB K (cl K c)) && (t.fld c).all fun f => decide (PySem.W.findIn K (.ref (cl K c)) f = some none)))))
theorem ctB_ok {t : CtT} {cl : PySem.W.Frag → CL} {K : PySem.W.Frag} (h : ctB t cl K = true) : CtOk t K (cl K) := by
  have key0 : ∀ c, c < t.n → _ := fun c hc => List.all_eq_true.mp h c (List.mem_range.mpr hc)
  have key : ∀ c, c < t.n → _ := fun c hc => (Bool.and_eq_true_iff.mp (key0 c hc)).2
  refine ⟨fun c hc c' hc' => ?_, fun a ha c hc => ?_, fun c hc b hb => ?_, fun c hc he => ?_, fun c hc he => ?_, fun c hc f hf => ?_, fun c hc c' hc' he he' => ?_⟩
  · exact of_decide_eq_true (List.all_eq_true.mp (Bool.and_eq_true_iff.mp (key c hc)).1 c' (List.mem_range.mpr hc'))
  · exact of_decide_eq_true (List.all_eq_true.mp (Bool.and_eq_true_iff.mp (Bool.and_eq_true_iff.mp (key c hc)).2).1 a ha)
  · exact of_decide_eq_true (List.all_eq_true.mp (Bool.and_eq_true_iff.mp (Bool.and_eq_true_iff.mp (Bool.and_eq_true_iff.mp (key c hc)).2).2).1 b hb)
  · have q := (Bool.and_eq_true_iff.mp (Bool.and_eq_true_iff.mp (Bool.and_eq_true_iff.mp (Bool.and_eq_true_iff.mp (key c hc)).2).2).2).1
    rw [he, if_pos rfl] at q
    exact excKB_ok q
  · have q := (Bool.and_eq_true_iff.mp (Bool.and_eq_true_iff.mp (Bool.and_eq_true_iff.mp (Bool.and_eq_true_iff.mp (key c hc)).2).2).2).1
    rw [he, if_neg Bool.false_ne_true] at q
    exact obKB_ok q
  · exact of_decide_eq_true (List.all_eq_true.mp (Bool.and_eq_true_iff.mp (Bool.and_eq_true_iff.mp (Bool.and_eq_true_iff.mp (Bool.and_eq_true_iff.mp (key c hc)).2).2).2).2 f hf)
  · have q := List.all_eq_true.mp (Bool.and_eq_true_iff.mp (key0 c hc)).1 c' (List.mem_range.mpr hc')
    rw [he, he'] at q
    exact of_decide_eq_true (by simpa using q)

/-! ### isinstance -/
inductive TyR (K : PySem.W.Frag) (H : Hp) : V → Value → Prop where
  | x {v : V} {t : Value} (h : TyX K H v t) : TyR K H v t
  | fT {a : Addr} {o : Obj} {kvs : List (List Key × V)} (e : H a = some (.frz o (.dT kvs))) : TyR K H (.ref a) (.type "dict")
  | exc {a C : Addr} {φ : Heap → Prop} {d : Option Addr} (e : H a = some (.ext φ)) (i : IsExc φ a C d) (k : ExcK K C) (hd : ∀ dd, d = some dd → ∃ o fs, H dd = some o ∧ IsXd o dd fs) : TyR K H (.ref a) (.ref C)
section
variable {X : Cx} {pins : List (Addr × Obj)} {σ : St} {H : Hp} {s : Shared}
/-- an exception's own dict -/
theorem xd_ns (I : Inv X pins σ H s) {dd : Addr} {o : HO} {fs : List (Str × V)} (e : H dd = some o) (h : IsXd o dd fs) : ∃ mA, s.heap.Ns1 dd mA ∧ ∀ f, RelO (fs.lookup f) (mA f) := by
  rcases h with rfl | rfl
  · exact I.hok dd _ e
  · exact exd_at I.hok e
theorem inst_exc (I : Inv X pins σ H s) {a C : Addr} {φ : Heap → Prop} {d : Option Addr} (e : H a = some (.ext φ)) (i : IsExc φ a C d) (hd : ∀ dd, d = some dd → ∃ o fs, H dd = some o ∧ IsXd o dd fs) :
    ∃ oe od, PySem.W.InstAt s.heap a oe C od ∧ ∀ dd, d = some dd → ∃ ob, od = some ob ∧ s.heap.get? dd = some ob := by
  obtain ⟨hp, _, _⟩ := (show ObjOk X.prog X.w H s.heap a (.ext φ) from I.hok a _ e)
  obtain ⟨oe, vs, ho, hz, hf⟩ := i _ hp
  cases d with
  | none => exact ⟨oe, none, ⟨ho, hz.1, by unfold PySem.W.notCls; rw [hf] <;> rfl, by rw [hz.2]; trivial⟩, fun dd z => by cases z⟩
  | some dd =>
    obtain ⟨o, fs, h1, h2⟩ := hd dd rfl
    obtain ⟨mA, hns, _⟩ := xd_ns I h1 h2
    obtain ⟨ob, hob, _⟩ := lookIn_ns hns
    exact ⟨oe, some ob, ⟨ho, hz.1, by unfold PySem.W.notCls; rw [hf] <;> rfl, by rw [hz.2]; exact hob⟩, fun d' z => by cases z; exact ⟨ob, rfl, hob⟩⟩
theorem kitR_of {x : V} {u t : Value} (I : Inv X pins σ H s) (rx : RelV x u) (ty : TyR X.K H x t) : ∃ P : Heap → Prop, PySem.W.KitX X.K u t P ∧ P s.heap ∧ u ≠ .builtin "__main__.__loader__#opaque" := by
  cases ty with
  | x h => exact kit_of I rx h
  | fT e =>
    cases rx
    obtain ⟨_, _, _, xs, _, o, es, ep, h1, h2, _⟩ := (show ObjOk X.prog X.w H s.heap _ (.frz _ (.dT _)) from I.hok _ _ e)
    exact ⟨_, PySem.W.kitx_dict, ⟨o, h1, h2.1⟩, fun z => nomatch z⟩
  | exc e i k hd =>
    cases rx
    obtain ⟨oe, od, J, _⟩ := inst_exc I e i hd
    exact ⟨_, PySem.W.kitx_exc (ox := oe) (od := od) k.cl k.hg k.hk k.hs k.ha k.hn k.ht k.hm, J, fun z => nomatch z⟩
def rIsR (K : PySem.W.Frag) : List V → Hp → VK → Prop := fun xs H Q => ∃ (x c : V) (t u : Value) (b : Bool), xs = [x, c] ∧ ClsV c u ∧ TyR K H x t ∧ PySem.W.kitOne K t u = some b ∧ Q (.bl b) H
def rIsRT (K : PySem.W.Frag) : List V → Hp → VK → Prop := fun xs H Q => ∃ (x : V) (tp : Addr) (cs : List V) (t : Value) (us : List Value) (b : Bool), xs = [x, .ref tp] ∧ SqT K H tp cs ∧ Paired ClsV cs us ∧ TyR K H x t ∧ PySem.W.kitAny K t us = some b ∧ Q (.bl b) H
theorem call_isR : CallR X (.builtin "isinstance") (rIsR X.K) := by
  intro pins s σ H xs us Q I r h
  obtain ⟨x, c, t, u, b, rfl, hc, ty, e, q⟩ := h
  cases r with
  | cons rx rr =>
    cases rr with
    | cons rt rr =>
      cases rr
      have ec := hc.eq rt
      subst ec
      obtain ⟨P, Z, p, hx⟩ := kitR_of I rx ty
      exact PySem.W.kia_one Z I.kIn p e hx fun tk => ⟨.bl b, H, I.kept (t' := tk) fun _ _ z => z, rfl, q⟩
theorem call_isRT : CallR X (.builtin "isinstance") (rIsRT X.K) := by
  intro pins s σ H xs us Q I r h
  obtain ⟨x, tp, cs, t, ws, b, rfl, hq, hc, ty, e, q⟩ := h
  cases r with
  | cons rx rr =>
    cases rr with
    | cons rt rr =>
      cases rr
      cases rt
      obtain ⟨its, rv, ht, _⟩ := I.tuple hq
      have ew := ClsV.all hc rv
      subst ew
      obtain ⟨P, Z, p, hx⟩ := kitR_of I rx ty
      obtain ⟨o, ho, hcl, n, hd⟩ := ht
      obtain ⟨oc, od, odt, osl⟩ := o
      dsimp only at hcl hd
      subst hcl hd
      exact PySem.W.kia_tup Z I.kIn p ho e hx fun tk => ⟨.bl b, H, I.kept (t' := tk) fun _ _ z => z, rfl, q⟩
end
/-- what a value is -/
def tagD (t : CtT) : D → Option Tag
  | .non => some (.b "NoneType")
  | .bl _ => some (.b "bool")
  | .int _ => some (.b "int")
  | .str _ => some (.b "str")
  | .lst _ => some (.b "list")
  | .tup _ => some (.b "tuple")
  | .dic _ _ => some (.b "dict")
  | .obj c _ _ => if c < t.n ∧ t.exc c = false then some (.o c) else none
  | .exc c _ _ => if c < t.n ∧ t.exc c = true then some (.o c) else none
  | _ => none
def tagA (t : CtT) (S : Store) : A → Option Tag
  | .val d => tagD t d
  | .loc n => match S[n]? with
    | some (some c) => tagD t (conD c)
    | _ => none
  | .fv _ => none
def isTag (t : CtT) : Tag → Tag → Option Bool
  | .b a, .b b => kitB a b
  | .b a, .o c => if c < t.n ∧ a ∈ baseTys then some false else none
  | .o c, .o c' => if c < t.n ∧ c' < t.n then some (decide (Tag.o c' ∈ t.mro c)) else none
  | .o c, .b b => if c < t.n ∧ b ∈ tgtTys then some (decide (Tag.b b ∈ t.mro c)) else none
def clsTag : D → Option Tag
  | .ty n => some (.b n)
  | .cls c => some (.o c)
  | _ => none
def clsTags : List D → Option (List Tag)
  | [] => some []
  | d :: r => match clsTag d, clsTags r with
    | some a, some b => some (a :: b)
    | _, _ => none
def isTags (t : CtT) (a : Tag) : List Tag → Option Bool
  | [] => some false
  | b :: r => match isTag t a b with
    | some true => some true
    | some false => isTags t a r
    | none => none
def hIsI (t : CtT) (as : List A) (S : Store) : Out A := match as with
  | [a, .val k] => (match tagA t S a with
    | some g => (match k with
      | .tup ks => (match clsTags ks with
        | some ts => (match isTags t g ts with
          | some b => .ok (.val (.bl b)) S
          | none => .bad)
        | none => .bad)
      | k => (match clsTag k with
        | some u => (match isTag t g u with
          | some b => .ok (.val (.bl b)) S
          | none => .bad)
        | none => .bad))
    | none => .bad)
  | _ => .bad
def tagV (cl : CL) : Tag → Value
  | .b n => .type n
  | .o c => .ref (cl c)
section
variable {t : CtT} {K : PySem.W.Frag} {cl : CL} {Hv H : Hp} {S : Store} {ad : List Addr}
theorem tyR_D (T : CtOk t K cl) (e : Ex Hv H) {v : V} {d : D} {g : Tag} (r : Rep K cl Hv v d) (h : tagD t d = some g) : TyR K H v (tagV cl g) := by
  cases r with
  | non => cases h; exact .x (.base .non)
  | bl => cases h; exact .x (.base (.bl _))
  | int => cases h; exact .x (.base (.int _))
  | str => cases h; exact .x (.base (.str _))
  | tup hq rs =>
    cases h
    rcases hq with (hq | ⟨o, hq⟩) | ⟨o, its, n, hk, hc, _⟩
    · exact .x (.base (.tup (e _ _ hq)))
    · exact .x (.fTuple (e _ _ hq))
    · exact .x (.kTuple hk hc)
  | lst hq rs => cases h; exact .x (.base (.lst (e _ _ hq)))
  | dK hq _ _ => cases h; exact .x (.fDict (e _ _ hq))
  | dT hq _ _ => cases h; exact .fT (e _ _ hq)
  | @obj a dx c fs ns vs hq _ _ =>
    simp only [tagD] at h
    split at h
    · rename_i hc
      cases h
      have k := T.obk c hc.1 hc.2
      exact .x (.base (.ins (e _ _ hq) k.cl k.ha k.hn k.ht k.hm))
    · cases h
  | @exc a dx φ o c fs ns vs hq hi ho hx _ _ =>
    simp only [tagD] at h
    split at h
    · rename_i hc
      cases h
      exact .exc (e _ _ hq) hi (T.exk c hc.1 hc.2) fun dd z => by cases z; exact ⟨o, fs, e _ _ ho, hx⟩
    · cases h
  | @exc0 a φ c hq hi =>
    simp only [tagD] at h
    split at h
    · rename_i hc
      cases h
      exact .exc (e _ _ hq) hi (T.exk c hc.1 hc.2) fun dd z => by cases z
    · cases h
  | scr _ => cases h
  | ty => cases h
  | cls => cases h
theorem tyR_A (T : CtOk t K cl) (so : StOk K cl Hv H S ad) {v : V} {a : A} {g : Tag} (r : RepA K cl Hv ad v a) (h : tagA t S a = some g) : TyR K H v (tagV cl g) := by
  cases a with
  | val d => exact tyR_D T so.ex r h
  | fv k => cases h
  | loc n =>
    obtain ⟨x, rfl, hx⟩ := r
    unfold tagA at h
    dsimp only at h
    split at h
    · rename_i c ec
      obtain ⟨x', g1, _, g3⟩ := so.at_ n c ec
      rw [hx] at g1
      cases g1
      cases c with
      | lst ds =>
        obtain ⟨xs, g4, _⟩ := g3
        cases h
        exact .x (.base (.lst g4))
      | dic ks vs =>
        cases h
        obtain ⟨kvs, g4, _⟩ := g3
        exact .x (.base (.dK g4))
      | dit ks vs =>
        cases h
        obtain ⟨kvs, g4, _⟩ := g3
        exact .x (.base (.dT g4))
      | ins C ns vs =>
        obtain ⟨dx, fs, g4, _⟩ := g3
        simp only [conD, tagD] at h
        split at h
        · rename_i hc
          cases h
          have k := T.obk C hc.1 hc.2
          exact .x (.base (.ins g4 k.cl k.ha k.hn k.ht k.hm))
        · cases h
    · cases h
theorem isTag_ok (T : CtOk t K cl) {a b : Tag} {k : Bool} (h : isTag t a b = some k) : PySem.W.kitOne K (tagV cl a) (tagV cl b) = some k := by
  cases a with
  | b x =>
    cases b with
    | b y => exact kit_ty h
    | o c =>
      simp only [isTag] at h
      split at h
      · rename_i hc
        cases h
        exact T.bown x hc.2 c hc.1
      · cases h
  | o c =>
    cases b with
    | b y =>
      simp only [isTag] at h
      split at h
      · rename_i hc
        cases h
        exact T.ob c hc.1 y hc.2
      · cases h
    | o c' =>
      simp only [isTag] at h
      split at h
      · rename_i hc
        cases h
        exact T.own c hc.1 c' hc.2
      · cases h
theorem isTags_ok (T : CtOk t K cl) {a : Tag} : ∀ {ts : List Tag} {k : Bool}, isTags t a ts = some k → PySem.W.kitAny K (tagV cl a) (ts.map (tagV cl)) = some k
  | [], k, h => by
    cases h
    rfl
  | b :: ts, k, h => by
    simp only [isTags] at h
    split at h
    · rename_i e
      cases h
      exact kitAny_cons (isTag_ok T e) (fun z => by cases z) fun _ => rfl
    · rename_i e
      exact kitAny_cons (isTag_ok T e) (fun _ => isTags_ok T h) fun z => by cases z
    · cases h
theorem clsTag_ok {v : V} {d : D} {g : Tag} (r : Rep K cl Hv v d) (h : clsTag d = some g) : ClsV v (tagV cl g) := by
  cases r <;> first
    | (cases h; exact .ty _)
    | (cases h; exact .own _)
    | cases h
theorem clsTags_ok : ∀ {vs : List V} {ds : List D} {ts : List Tag}, Reps K cl Hv vs ds → clsTags ds = some ts → Paired ClsV vs (ts.map (tagV cl))
  | _, _, _, .nil, h => by
    cases h
    exact .nil
  | _, _, ts, .cons (d := d) (ds := ds) r rs, h => by
    simp only [clsTags] at h
    cases q1 : clsTag d with
    | none => rw [q1] at h; cases h
    | some a =>
      cases q2 : clsTags ds with
      | none => rw [q1, q2] at h; cases h
      | some b =>
        rw [q1, q2] at h
        cases h
        exact .cons (clsTag_ok r q1) (clsTags_ok rs q2)
end
section
variable {X : Cx} {cl : CL} {W : WX} {t : CtT} {x : Str} {pos : Pos}
theorem b_isI (T : CtOk t X.K cl) : ∃ r, CallR X (.builtin "isinstance") r ∧ RdC X.K cl W r (hIsI t) := by
  refine ⟨_, CallR.or call_isR call_isRT, fun σ Hv H S ad xs as Q so rs q => ?_⟩
  unfold hIsI at q
  split at q
  · rename_i a k
    obtain ⟨v, w, rfl, r1, r2⟩ := rep2 rs
    split at q
    · rename_i g eg
      have ty := tyR_A T so r1 eg
      split at q
      · rename_i ks
        split at q
        · rename_i ts ets
          split at q
          · rename_i b eb
            cases r2 with
            | tup hq rr => exact .inr ⟨v, _, _, _, _, b, rfl, ex_t so.ex hq, clsTags_ok rr ets, ty, isTags_ok T eb, q.here so _ .bl⟩
          · exact q.elim
        · exact q.elim
      · split at q
        · rename_i u eu
          split at q
          · rename_i b eb
            exact .inl ⟨v, w, _, _, b, rfl, clsTag_ok r2 eu, ty, isTag_ok T eb, q.here so _ .bl⟩
          · exact q.elim
        · exact q.elim
    · exact q.elim
  · exact q.elim
/-- a class as a value -/
theorem se_cls {c : Nat} (hm : X.mg x = some (.ref (cl c))) (hg : Gl X x := by rfl) (hd : (x == ("__debug__" : Str)) = false := by decide) : SE X cl W (.Name x pos) (eC (.cls c)) := ⟨_, pe_glob (v := .ref (cl c)) hg hm rfl hd, rd_c fun _ => .cls⟩
theorem se_ty {n : String} (hm : X.mg x = none) (hv : bootBuiltins x = some (.type n) := by decide +kernel) (hg : Gl X x := by rfl) (hn : x ≠ "__name__" := by decide) (hd : (x == ("__debug__" : Str)) = false := by decide) : SE X cl W (.Name x pos) (eC (.ty n)) := ⟨_, pe_bltn (v := .ty n) hg hm hv rfl hn hd, rd_c fun _ => .ty⟩
end
end R


namespace R
open PySem L2


theorem hd_in {K : PySem.W.Frag} {h : Heap} {c P : Addr} (X : K.In h) (e : PySem.W.codeHdIn K c P = true) : PySem.W.CodeHd h c P := PySem.W.codeHd_of_K X e
/-- the abstract heap at the law's start: the script, sys.modules, the empty tables -/
def startH (sc : Option (Addr × HO)) (o1 : Obj) (ts : List Addr) : Hp := fun b => if b = sysModules then some (.frz o1 (.ext fun _ => True)) else if b ∈ ts then some (.tbl #[]) else match sc with
  | some (a, u) => if b = a then some u else none
  | none => none
/-- the law's def, called at the heap behind the top: the script is frozen, the tables are empty -/
theorem law_callG {P : Program} {w : World} {K : PySem.W.Frag} {mg mb : Str → Option Value} {k : Nat} {fa a : Addr} {fd : FuncData} {x : Str} {sp : Sp} {s1 : Shared} {vs : List Value} {ns : List Int} {cs : List (Addr × Addr)}
    (KX : K.In s1.heap) (hns : s1.heap.Ns mainGlobals mg) (hb : s1.heap.Ns builtinsNs mb) (hbb : ∀ x : Str, x ≠ "__name__" → mb x = bootBuiltins x) (hlim : s1.heap.NoLimit) (hg : s1.gens = #[])
    (hT : ∀ p ∈ cs, s1.heap.get? p.2 = some { cls := .none, data := .fields #[] }) (nT : ∀ p ∈ cs, K.lookup p.2 = none) (hC : ∀ p ∈ cs, PySem.W.CodeHd s1.heap p.1 p.2)
    (hbm : ∃ (bm : Addr) (ob : Obj), mg "__builtins__" = some (.ref bm) ∧ bm ≠ builtinsNs ∧ s1.heap.get? bm = some ob ∧ ob.cls = .type "module" ∧ ob.dict = some builtinsNs ∧ ob.data = .plain)
    (ha : s1.heap.get? a = some { cls := .type "list", data := .seq vs.toArray }) (hi : PyProof.Rows.IntsAre vs ns) (hl : ns.length ≤ sizeLine) (hr : Room k callerA) {o1 : Obj} (h1 : s1.heap.get? sysModules = some o1) (hk1 : K.lookup sysModules = none) (hdc : o1.cls = .type "dict")
    (F : ∀ base : Heap, K.In base → base.Ns mainGlobals mg → (∀ p ∈ cs, LamX.TabB base mg p.1 p.2) → FnG P w K mg base k fa fd [x] sp) (hbind : ∀ (s : Shared) (u : Value), BindsTo s fd ⟨[u], []⟩ [(x, u)])
    (hsp : ∀ H : Hp, (∃ o φ, H sysModules = some (.frz o (.ext φ))) → (∀ p ∈ cs, H p.2 = some (.tbl #[])) → SqL K H a (ns.map V.int) → sp [.ref a] H (fun v _ => v = .bl true) fun _ _ _ => False) :
    codeAny (model P w) callerA (.call (.ref fa) ⟨[.ref a], []⟩) (fun r s' => r = .ok (.ret (.bool true)) ∧ OldK s1.heap s'.heap ∧ s'.os = s1.os ∧ PyProof.Rows.AllBare s'.gens) s1 := by
  have rv := vals_ints hi
  have tabAt : ∀ b : Addr, b ∈ cs.map (·.2) → s1.heap.get? b = some { cls := .none, data := .fields #[] } := fun b hb => by
    obtain ⟨p, hp, rfl⟩ := List.mem_map.mp hb
    exact hT p hp
  have other : ∀ {b : Addr} {o : Obj}, s1.heap.get? b = some o → o.cls ≠ .type "dict" → b ≠ sysModules := fun {b o} e n z => by
    rw [z, h1] at e
    cases e
    exact n hdc
  have hne : a ≠ sysModules := other ha fun z => by simp at z
  have nsT : sysModules ∉ cs.map (·.2) := fun z => other (tabAt _ z) (fun z => by cases z) rfl
  have naT : a ∉ cs.map (·.2) := fun z => by
    have := tabAt _ z
    rw [ha] at this
    cases this
  have main : ∀ H : Hp, (∀ b u, H b = some u → (b = a ∧ K.lookup a = none ∧ u = .frz { cls := .type "list", data := .seq vs.toArray } (.lst (ns.map V.int))) ∨ (b = sysModules ∧ u = .frz o1 (.ext fun _ => True)) ∨ (b ∈ cs.map (·.2) ∧ u = .tbl #[])) →
      H sysModules = some (.frz o1 (.ext fun _ => True)) → (∀ p ∈ cs, H p.2 = some (.tbl #[])) → SqL K H a (ns.map V.int) →
      codeAny (model P w) callerA (.call (.ref fa) ⟨[.ref a], []⟩) (fun r s' => r = .ok (.ret (.bool true)) ∧ OldK s1.heap s'.heap ∧ s'.os = s1.os ∧ PyProof.Rows.AllBare s'.gens) s1 := fun H only hH1 hHT hS => by
    have hok : HOk P w H s1.heap := fun b u e => by
      rcases only b u e with ⟨rfl, _, rfl⟩ | ⟨rfl, rfl⟩ | ⟨hb, rfl⟩
      · exact ⟨ha, by rw [List.length_map]; exact hl, vs, _, rv, ha⟩
      · exact ⟨h1, trivial, ⟨o1, h1⟩, fun _ _ _ _ => trivial⟩
      · exact tabAt b hb
    have none_of : ∀ {b : Addr}, b ≠ a → b ≠ sysModules → b ∉ cs.map (·.2) → H b = none := fun {b} hb hb1 hb2 => by
      cases q : H b with
      | none => rfl
      | some u => exact (only b u q).elim (fun z => absurd z.1 hb) fun z => z.elim (fun z => absurd z.1 hb1) fun z => absurd z.1 hb2
    have kp : ∀ {b : Addr} {o : Obj}, s1.heap.get? b = some o → H b = none → (hidT s1.heap H).get? b = some o := fun e n => hidT_get e n
    /- an object that is no list, no table and not sys.modules stays to be seen -/
    have see : ∀ {b : Addr} {o : Obj}, s1.heap.get? b = some o → b ≠ sysModules → (∀ xs n, o.data ≠ .seq xs n) → o.data ≠ .fields #[] → (hidT s1.heap H).get? b = some o := fun {b o} e hb1 hd1 hd2 => kp e (none_of (fun z => by
        subst z
        rw [ha] at e
        cases e
        exact hd1 _ _ rfl) hb1 (fun z => by
        rw [tabAt b z] at e
        cases e
        exact hd2 rfl))
    have ns_ne : ∀ {b : Addr} {m : Str → Option Value}, b ≠ sysModules → s1.heap.Ns b m → (hidT s1.heap H).Ns b m := fun {b m} hb1 ⟨o, es, ep, e, d, r⟩ =>
      ⟨o, es, ep, see e hb1 (fun xs n z => by rw [d] at z; cases z) (fun z => by rw [d] at z; cases z), d, r⟩
    have kin : K.In (hidT s1.heap H) := fun b o e => kp (KX b o e) (by
      cases q : H b with
      | none => rfl
      | some u =>
        rcases only b u q with ⟨rfl, z, _⟩ | ⟨rfl, _⟩ | ⟨hb, _⟩
        · rw [z] at e
          cases e
        · rw [hk1] at e
          cases e
        · obtain ⟨p, hp, rfl⟩ := List.mem_map.mp hb
          rw [nT p hp] at e
          cases e)
    have hM : Mod K mg (hidT s1.heap H) := ⟨kin, ns_ne (by decide) hns, ⟨mb, ns_ne (by decide) hb, hbb⟩, hlim.elim fun mc z => ⟨mc, ns_ne (by decide) z.1, z.2⟩⟩
    have e0 : Env0 P w K mg (hidT s1.heap H) callerA [] s1 H := ⟨rfl, hM, fun b o e => of_hidT e, Nat.le_of_eq (hidT_size _ _), trivial, fun b hb => (List.not_mem_nil hb).elim, hok, .of_eq hg⟩
    have gdict : ∀ {p : Addr × Addr}, p ∈ cs → mainGlobals ≠ p.2 := fun {p} hp z => by
      obtain ⟨o, es, ep, e, d, _⟩ := hns
      rw [z, hT p hp] at e
      cases e
      cases d
    have tb : ∀ p ∈ cs, LamX.TabB (hidT s1.heap H) mg p.1 p.2 := fun p hp => by
      obtain ⟨bm, ob, b1, b2, b3, b4, b5, b6⟩ := hbm
      refine ⟨?_, ⟨bm, ob, b1, b2, fun z => ?_, fun z => ?_, see b3 (other b3 (by rw [b4]; intro z; simp at z)) (fun xs n z => by rw [b6] at z; cases z) (fun z => by rw [b6] at z; cases z), b4, b5, b6⟩, gdict hp⟩
      · obtain ⟨o, us, file, tf, flags, tg, inF, text, tt, e1, r1, r2, r3, r4, r5, r6, r7, r8, hne⟩ := hC p hp
        exact ⟨o, us, file, tf, flags, tg, inF, text, tt, see e1 (other e1 (by rw [r1]; intro z; simp at z)) (fun xs n z => by rw [r2] at z; cases z) (fun z => by rw [r2] at z; cases z; simp at r3), r1, r2, r3, r4, r5, r6, r7, r8, hne⟩
      · obtain ⟨o, es, ep, e, d, _⟩ := hns
        rw [z, e] at b3
        cases b3
        rw [d] at b6
        cases b6
      · rw [z, hT p hp] at b3
        cases b3
        cases b6
    refine codeAny_mono ((F _ kin (ns_ne (by decide) hns) tb).run callerA [] s1 H ⟨[.ref a], []⟩ [.ref a] [.ref a] _ _ rfl hr e0 (hbind s1 (.ref a)) (.cons rfl .nil) (hsp H ⟨o1, _, hH1⟩ hHT hS)) fun r s' h => ?_
    match r, h with
    | .error e, h =>
      obtain ⟨_, _, _, _, _, _, _, _, _, _, _, _, z⟩ := h
      exact z.elim
    | .ok (.ret u), ⟨v, H', os, bare, un, hok', r', q⟩ =>
      have q' : v = .bl true := q
      subst q'
      obtain rfl : u = Value.bool true := r'
      have stay : ∀ b o, b ∉ cs.map (·.2) → s1.heap.get? b = some o → s'.heap.get? b = some o := fun b o hb e => by
        cases q : H b with
        | none => exact un.keep b o e q (fun z => (List.not_mem_nil z).elim) (fun z => (List.not_mem_nil z).elim)
        | some u =>
          rcases only b u q with ⟨rfl, _, rfl⟩ | ⟨rfl, rfl⟩ | ⟨hb2, _⟩
          · obtain ⟨e2, _⟩ := hok' b _ (un.frzs b _ _ q)
            rw [ha] at e
            cases e
            exact e2
          · obtain ⟨e2, _⟩ := hok' _ _ (un.frzs _ _ _ q)
            rw [h1] at e
            cases e
            exact e2
          · exact absurd hb2 hb
      have more : ∀ p ∈ cs, ∃ m : Array Value, s'.heap.get? p.2 = some { cls := .none, data := .fields m } := fun p hp => by
        obtain ⟨m, z⟩ := un.tbls p.2 #[] (hHT p hp)
        exact ⟨_, hok' p.2 _ z⟩
      refine ⟨rfl, ⟨fun b o e => ?_, fun b o e => ?_⟩, os, bare⟩
      · by_cases hb : b ∈ cs.map (·.2)
        · obtain ⟨p, hp, rfl⟩ := List.mem_map.mp hb
          obtain ⟨m, hm⟩ := more p hp
          rw [hT p hp] at e
          cases e
          exact .inr (.inl ⟨((hC p hp).tab (hT p hp)).isCodeTable, rfl, #[], m, rfl, by rw [Array.empty_append]; exact hm⟩)
        · exact .inl (stay b o hb e)
      · by_cases hb : b ∈ cs.map (·.2)
        · obtain ⟨p, hp, rfl⟩ := List.mem_map.mp hb
          obtain ⟨m, hm⟩ := more p hp
          exact ⟨_, hm⟩
        · exact ⟨o, stay b o hb e⟩
  have stS : ∀ sc, startH sc o1 (cs.map (·.2)) sysModules = some (.frz o1 (.ext fun _ => True)) := fun sc => if_pos rfl
  have stT : ∀ sc, ∀ p ∈ cs, startH sc o1 (cs.map (·.2)) p.2 = some (.tbl #[]) := fun sc p hp => by
    have hm : p.2 ∈ cs.map (·.2) := List.mem_map.mpr ⟨p, hp, rfl⟩
    unfold startH
    rw [if_neg (fun z => nsT (by rw [← z]; exact hm)), if_pos hm]
  cases hk : K.lookup a with
  | some o =>
    have e := KX a o hk
    rw [ha] at e
    cases e
    refine main (startH none o1 (cs.map (·.2))) (fun b u z => ?_) (stS none) (stT none) (.inr ⟨_, vs.toArray, _, hk, rfl, rfl, rfl, by rw [List.size_toArray, hi.length]; exact hl, by simpa using rv⟩)
    unfold startH at z
    split at z
    · rename_i hb
      exact .inr (.inl ⟨hb, (Option.some.inj z).symm⟩)
    · split at z
      · rename_i hb
        exact .inr (.inr ⟨hb, (Option.some.inj z).symm⟩)
      · cases z
  | none =>
    refine main (startH (some (a, .frz { cls := .type "list", data := .seq vs.toArray } (.lst (ns.map V.int)))) o1 (cs.map (·.2))) (fun b u z => ?_) (stS (some (a, .frz { cls := .type "list", data := .seq vs.toArray } (.lst (ns.map V.int))))) (stT (some (a, .frz { cls := .type "list", data := .seq vs.toArray } (.lst (ns.map V.int))))) (.inl (.inr ⟨{ cls := .type "list", data := .seq vs.toArray }, ?_⟩))
    · unfold startH at z
      split at z
      · rename_i hb
        exact .inr (.inl ⟨hb, (Option.some.inj z).symm⟩)
      · split at z
        · rename_i hb
          exact .inr (.inr ⟨hb, (Option.some.inj z).symm⟩)
        · dsimp only at z
          split at z
          · rename_i hb
            exact .inl ⟨hb, hk, (Option.some.inj z).symm⟩
          · cases z
    · unfold startH
      rw [if_neg hne, if_neg naT]
      exact if_pos rfl
theorem walkG {l : PySem.W.OpenLaw} {n k : Nat} {q : Program} {loose : List Str} {XP : (Str → Option Value) → Heap → Prop} {YP : World → Heap → Prop} {d : DefRec} {x : Str}
    (hn : l.most = some n) (hn2 : n ≤ sizeLine) (hdf : d.params.defaults = []) (hr : Room k callerA)
    (F : ∀ (w : World) (mg : Str → Option Value) (fa : Addr) (h : Heap), YP w h → h.Ns mainGlobals mg → mg d.name = some (.ref fa) →
      ∃ (K : PySem.W.Frag) (tf : List He.Defn) (fd : FuncData) (sp : Sp), K.In h ∧ TabK tf h K ∧ K.lookup sysModules = none ∧ (∃ o, h.get? sysModules = some o ∧ o.cls = .type "dict") ∧ (∀ (s : Shared) (u : Value), BindsTo s fd ⟨[u], []⟩ [(x, u)]) ∧
        (∀ (H : Hp) (a : Addr) (ns : List Int), ns.length ≤ n → (∃ o φ, H sysModules = some (.frz o (.ext φ))) → (∀ p ∈ tf, H (He.cT K p).2 = some (.tbl #[])) → SqL K H a (ns.map V.int) → sp [.ref a] H (fun v _ => v = .bl true) fun _ _ _ => False) ∧
        ∀ base : Heap, K.In base → base.Ns mainGlobals mg → (∀ p ∈ tf, LamX.TabB base mg (He.cT K p).1 (He.cT K p).2) → FnG l.prog w K mg base k fa fd [x] sp) :
    PySem.W.WalkO q loose XP YP l.row.toRowW d [] (fun f vs => PySem.call f vs) := by
  refine Att.attach_call hn hdf fun w s₀ s1 mg mb fa o pm cd doc a vs ns G Y ho hd hcd hmg hobj hints hlen hg => ?_
  obtain ⟨K, tf, fd, sp, KX, TK, hk1, ⟨o1, h1, hl1⟩, hb, hsp, hF⟩ := F w mg fa _ Y G.T.g hmg
  have up : ∀ {p : Addr × Addr}, p ∈ tf.map (He.cT K) → ∃ q ∈ tf, p = He.cT K q := fun {p} hp => by
    obtain ⟨q, hq, e⟩ := List.mem_map.mp hp
    exact ⟨q, hq, e.symm⟩
  refine law_callG (cs := tf.map (He.cT K)) KX G.T.g G.T.b G.T.builtins G.T.nolimit hg (fun p hp => ?_) (fun p hp => ?_) (fun p hp => ?_) G.T.bmain hobj hints (Nat.le_trans hlen hn2) hr h1 hk1 hl1
    (fun base k1 k2 k3 => hF base k1 k2 fun p hp => k3 _ (List.mem_map.mpr ⟨p, hp, rfl⟩)) hb fun H hm hT hS => hsp H a ns hlen hm (fun p hp => hT _ (List.mem_map.mpr ⟨p, hp, rfl⟩)) hS
  · obtain ⟨q, hq, rfl⟩ := up hp
    exact TK.empty q hq
  · obtain ⟨q, hq, rfl⟩ := up hp
    exact TK.out q hq
  · obtain ⟨q, hq, rfl⟩ := up hp
    exact hd_in KX (TK.hd q hq)
/-- the law's own promise: g gives True for every script -/
theorem spF_law {K : PySem.W.Frag} {cl : CL} {g : List A → Store → Out A} {H : Hp} {a : Addr} {ns : List Int} (hm : ∃ o φ, H sysModules = some (.frz o (.ext φ))) (hT : ∀ p ∈ cl.tabs, H p.1 = some (.tbl #[])) (hS : SqL K H a (ns.map V.int)) (h : ∃ S, g [.val (.scr ns)] [] = .ok (.val (.bl true)) S) (hk : cl.kn = (fun _ => none) := by rfl) (hka : cl.ka = [] := by rfl) :
    SpF K cl 1 g [.ref a] H (fun v _ => v = .bl true) fun _ _ _ => False := by
  obtain ⟨S, e⟩ := h
  /- what is seen: all but the tables -/
  refine ⟨rfl, fun b => match H b with | some (.tbl _) => none | z => z, [], [], [.val (.scr ns)], .cons (.scr ?_) .nil, ⟨fun b u z => ?_, rfl, fun n c z => by simp at z, fun n m c c' a z => by simp at z, ?_, fun p hp => LamX.TabS.nil (hT p hp), fun b ps z => ?_, (fun b o z => by (rw [hk] at z; cases z)), ⟨[], by rw [hka]; rfl⟩⟩, ?_⟩
  · rcases hS with (hS | ⟨o, hS⟩) | hS
    · exact .inl (.inl (by dsimp only; rw [hS]))
    · exact .inl (.inr ⟨o, by dsimp only; rw [hS]⟩)
    · exact .inr hS
  · split at z
    · cases z
    · exact z
  · obtain ⟨o, φ, z⟩ := hm
    exact ⟨o, φ, by rw [z]⟩
  · split at z
    · cases z
    · rename_i hz
      exact hz ps z
  · rw [e]
    intro Hv' ad' H' _ _ _ v rv
    cases rv
    rfl
end R


namespace R
open PySem L2

/-! ### data with dicts, as the model's plain data -/
mutual
def toPyF : D → Option PyData
  | .non => some .none
  | .bl b => some (.bool b)
  | .int i => some (.int i)
  | .str x => some (.str x)
  | .tup xs => (toPyFs xs).map .tuple
  | .lst xs => (toPyFs xs).map .list
  | .dic ks vs => match toPyFs ks, toPyFs vs with
    | some a, some b => some (.dict (a.zip b))
    | _, _ => none
  | .obj _ _ _ => none
  | .exc _ _ _ => none
  | .scr _ => none
  | .ty _ => none
  | .cls _ => none
def toPyFs : List D → Option (List PyData)
  | [] => some []
  | x :: r => match toPyF x, toPyFs r with
    | some a, some b => some (a :: b)
    | _, _ => none
end
def keyPy : Key → PyData
  | .inl i => .int i
  | .inr x => .str x
theorem toPyFs_keys : ∀ (ks : List Key), toPyFs (ks.map keyD) = some (ks.map keyPy)
  | [] => rfl
  | .inl i :: ks => by simp only [List.map_cons, keyD, toPyFs, toPyF, toPyFs_keys ks, keyPy]
  | .inr x :: ks => by simp only [List.map_cons, keyD, toPyFs, toPyF, toPyFs_keys ks, keyPy]
theorem toPyFs_tkeys : ∀ (ks : List (List Key)), toPyFs (ks.map fun k => .tup (k.map keyD)) = some (ks.map fun k => .tuple (k.map keyPy))
  | [] => rfl
  | k :: ks => by simp only [List.map_cons, toPyFs, toPyF, toPyFs_tkeys ks, toPyFs_keys k, Option.map_some]
theorem toPyFs_length : ∀ {ds : List D} {ps : List PyData}, toPyFs ds = some ps → ps.length = ds.length
  | [], ps, h => by cases h; rfl
  | d :: ds, ps, h => by
    simp only [toPyFs] at h
    cases q1 : toPyF d with
    | none => rw [q1] at h; cases h
    | some a =>
      cases q2 : toPyFs ds with
      | none => rw [q1, q2] at h; cases h
      | some b =>
        rw [q1, q2] at h
        cases h
        simp [toPyFs_length q2]
section
variable {X : Cx} {pins : List (Addr × Obj)} {σ : St} {H : Hp} {s : Shared} {cl : CL}
theorem key_reads {k : Key} {v : Value} (h : keyIs k v = true) : Reads s.heap v (keyPy k) [] := by
  rcases keyIs_shape h with ⟨i, t, rfl, rfl⟩ | ⟨x, t, rfl, rfl⟩
  · exact .int _ _
  · exact .str _ _
theorem readsAll_keys : ∀ {es : List DictEntry} {kvs : List (Key × Value)}, Pairs (mixKind X.prog X.w) es kvs → ReadsAll s.heap (es.map (·.key)) (kvs.map fun p => keyPy p.1) [] ∧ es.map (·.val) = kvs.map (·.2)
  | _, _, .nil => ⟨.nil, rfl⟩
  | _, _, .cons (e := e) (kv := kv) h1 h2 t => by
    obtain ⟨r, q⟩ := readsAll_keys t
    exact ⟨.cons (as := []) (bs := []) (key_reads h1) r, by rw [List.map_cons, List.map_cons, h2, q]⟩
theorem readsAll_kv : ∀ {ks : List Key} {us : List Value}, Vals (ks.map kV) us → ReadsAll s.heap us (ks.map keyPy) []
  | [], _, .nil => .nil
  | .inl i :: ks, _, .cons r t => by
    obtain ⟨tk, rfl⟩ := r
    exact .cons (as := []) (bs := []) (.int _ _) (readsAll_kv t)
  | .inr x :: ks, _, .cons r t => by
    obtain ⟨tk, rfl⟩ := r
    exact .cons (as := []) (bs := []) (.str _ _) (readsAll_kv t)
theorem tuple_reads (I : Inv X pins σ H s) {a : Addr} {xs : List V} (h : SqT X.K H a xs) {ps : List PyData} {as : List Addr} (r : ∀ us, Vals xs us → ReadsAll s.heap us ps as) : Reads s.heap (.ref a) (.tuple ps) as := by
  obtain ⟨its, rv, ⟨o, ho, hc, n, hd⟩, _⟩ := I.tuple h
  exact .tuple ho hc hd (r its rv)
theorem kv_vals : ∀ {κ : Type} {kvs : List (κ × V)} {vs : List (κ × Value)}, KV kvs vs → Vals (kvs.map (·.2)) (vs.map (·.2)) ∧ kvs.map (·.1) = vs.map (·.1)
  | _, _, _, .nil => ⟨.nil, rfl⟩
  | _, _, _, .cons h t => by
    obtain ⟨a, b⟩ := kv_vals t
    exact ⟨.cons h.2 a, by rw [List.map_cons, List.map_cons, h.1, b]⟩
theorem sm_ne {Hv : Hp} {a : Addr} {o : HO} (sm : ∃ o φ, Hv sysModules = some (.frz o (.ext φ))) (h : Hv a = some o) (hn : ∀ o' φ, o ≠ .frz o' (.ext φ)) : a ≠ sysModules := fun z => by
  obtain ⟨o', φ, e⟩ := sm
  subst z
  rw [h] at e
  exact hn o' φ (Option.some.inj e)
theorem rep_reads (I : Inv X pins σ H s) (sm : ∃ o φ, H sysModules = some (.frz o (.ext φ))) {v : V} {d : D} (h : Rep X.K cl H v d) : ∀ p u, toPyF d = some p → RelV v u → ∃ as, Reads s.heap u p as ∧ sysModules ∉ as :=
  Rep.rec (motive_1 := fun v d _ => ∀ p u, toPyF d = some p → RelV v u → ∃ as, Reads s.heap u p as ∧ sysModules ∉ as) (motive_2 := fun vs ds _ => ∀ ps us, toPyFs ds = some ps → Vals vs us → ∃ as, ReadsAll s.heap us ps as ∧ sysModules ∉ as)
    (fun p u e r => by
      simp only [toPyF, Option.some.injEq] at e
      subst e
      cases r
      exact ⟨[], .none, List.not_mem_nil⟩)
    (fun p u e r => by
      simp only [toPyF, Option.some.injEq] at e
      subst e
      cases r
      exact ⟨[], .bool _, List.not_mem_nil⟩)
    (fun p u e r => by
      simp only [toPyF, Option.some.injEq] at e
      subst e
      obtain ⟨t, rfl⟩ := r
      exact ⟨[], .int _ _, List.not_mem_nil⟩)
    (fun p u e r => by
      simp only [toPyF, Option.some.injEq] at e
      subst e
      obtain ⟨t, rfl⟩ := r
      exact ⟨[], .str _ _, List.not_mem_nil⟩)
    (fun {a xs ds} hq _ ih p u e r => by
      simp only [toPyF] at e
      cases q : toPyFs ds with
      | none => rw [q] at e; cases e
      | some ps =>
        rw [q] at e
        cases e
        cases r
        obtain ⟨its, rv, ⟨o, ho, hc, n, hd⟩, _⟩ := I.tuple hq
        obtain ⟨as, h1, h2⟩ := ih ps its q rv
        exact ⟨as, .tuple ho hc hd h1, h2⟩)
    (fun {a xs ds} hq _ ih p u e r => by
      simp only [toPyF] at e
      cases q : toPyFs ds with
      | none => rw [q] at e; cases e
      | some ps =>
        rw [q] at e
        cases e
        cases r
        obtain ⟨_, its, n, rv, ho⟩ := (show ObjOk X.prog X.w H s.heap a (.lst xs) from I.hok a _ hq)
        obtain ⟨as, h1, h2⟩ := ih ps its q rv
        refine ⟨a :: as, .list ho rfl rfl h1, fun z => ?_⟩
        rcases List.mem_cons.mp z with z | z
        · exact sm_ne sm hq (fun _ _ z => by cases z) z.symm
        · exact h2 z)
    (fun _ p u e r => by simp only [toPyF] at e; cases e)
    (fun {a o kvs ks vs} hq ek _ ih p u e r => by
      simp only [toPyF] at e
      have e1 : toPyFs ks = some ((kvs.map (·.1)).map keyPy) := by
        rw [ek, ← toPyFs_keys, List.map_map]
        rfl
      rw [e1] at e
      cases q : toPyFs vs with
      | none => rw [q] at e; cases e
      | some ps =>
        rw [q] at e
        cases e
        cases r
        obtain ⟨_, hsy, ws, kw, o2, es, ep, g1, g2, g3, _, g5, _⟩ := dk_rd I.hok (.inr ⟨o, hq⟩)
        obtain ⟨rv, ek2⟩ := kv_vals kw
        obtain ⟨h3, h4⟩ := readsAll_keys (s := s) g5
        obtain ⟨as, h1, h2⟩ := ih ps _ q rv
        have hl : ((kvs.map (·.1)).map keyPy).length = ps.length := by
          have := toPyFs_length q
          have h5 := rv.length
          have h6 := Reps.length (K := X.K) (cl := cl) (H := H) (vs := kvs.map (·.2)) (ds := vs) (by assumption)
          simp at this h5 h6 ⊢
          omega
        refine ⟨a :: [] ++ as, .dict (kvs := ((kvs.map (·.1)).map keyPy).zip ps) g1 g2.1 g3 ?_ ?_, fun z => ?_⟩
        · rw [List.map_fst_zip (by omega), ek2, List.map_map]
          exact h3
        · rw [List.map_snd_zip (by omega), h4]
          exact h1
        · rcases List.mem_cons.mp z with z | z
          · rw [← z] at hsy
            simp at hsy
          · exact h2 (by simpa using z))
    (fun {a o kvs ks vs} hq ek _ ih p u e r => by
      simp only [toPyF] at e
      have e1 : toPyFs ks = some ((kvs.map (·.1)).map fun k => .tuple (k.map keyPy)) := by
        rw [ek, ← toPyFs_tkeys, List.map_map]
        rfl
      rw [e1] at e
      cases q : toPyFs vs with
      | none => rw [q] at e; cases e
      | some ps =>
        rw [q] at e
        cases e
        cases r
        obtain ⟨hoo, _, hsy, xs, kw, o2, es, ep, g1, g2, g3, g4, _⟩ := (show ObjOk X.prog X.w H s.heap a (.frz o (.dT kvs)) from I.hok a _ hq)
        have main : ∀ {l : List (List Key × V)} {m : List (List Key × Addr × Value)}, Paired (fun (p : List Key × V) (q : List Key × Addr × Value) => p.1 = q.1 ∧ H q.2.1 = some (.tup (p.1.map kV)) ∧ RelV p.2 q.2.2) l m →
            ReadsAll s.heap (m.map fun x => Value.ref x.2.1) ((l.map (·.1)).map fun k => .tuple (k.map keyPy)) [] ∧ Vals (l.map (·.2)) (m.map (·.2.2)) := by
          intro l m hp
          induction hp with
          | nil => exact ⟨.nil, .nil⟩
          | @cons p q ps qs hq _ ih =>
            exact ⟨.cons (as := []) (bs := []) (tuple_reads I (.inl (.inl hq.2.1)) fun us r => readsAll_kv r) ih.1, .cons hq.2.2 ih.2⟩
        obtain ⟨h3, rv⟩ := main kw
        obtain ⟨as, h1, h2⟩ := ih ps _ q rv
        have hl : ((kvs.map (·.1)).map fun k => PyData.tuple (k.map keyPy)).length = ps.length := by
          have := toPyFs_length q
          have h6 := Reps.length (K := X.K) (cl := cl) (H := H) (vs := kvs.map (·.2)) (ds := vs) (by assumption)
          simp at this h6 ⊢
          omega
        refine ⟨a :: [] ++ as, .dict (kvs := ((kvs.map (·.1)).map fun k => PyData.tuple (k.map keyPy)).zip ps) g1 g2.1 g3 ?_ ?_, fun z => ?_⟩
        · rw [List.map_fst_zip (by omega), g4, List.map_map]
          exact h3
        · rw [List.map_snd_zip (by omega), g4, List.map_map]
          exact h1
        · rcases List.mem_cons.mp z with z | z
          · rw [← z] at hsy
            simp at hsy
          · exact h2 (by simpa using z))
    (fun _ _ _ _ p u e r => by simp only [toPyF] at e; cases e)
    (fun _ _ _ _ _ _ _ p u e r => by simp only [toPyF] at e; cases e)
    (fun _ _ p u e r => by simp only [toPyF] at e; cases e)
    (fun p u e r => by simp only [toPyF] at e; cases e)
    (fun p u e r => by simp only [toPyF] at e; cases e)
    (fun ps us e r => by
      simp only [toPyFs, Option.some.injEq] at e
      subst e
      cases r
      exact ⟨[], .nil, List.not_mem_nil⟩)
    (fun {v d vs ds} _ _ ih1 ih2 ps us e r => by
      simp only [toPyFs] at e
      cases q1 : toPyF d with
      | none => rw [q1] at e; cases e
      | some p =>
        cases q2 : toPyFs ds with
        | none => rw [q1, q2] at e; cases e
        | some t =>
          rw [q1, q2] at e
          cases e
          cases r with
          | cons r1 r2 =>
            obtain ⟨as, h1, h2⟩ := ih1 p _ q1 r1
            obtain ⟨bs, h3, h4⟩ := ih2 t _ q2 r2
            exact ⟨as ++ bs, .cons h1 h3, fun z => (List.mem_append.mp z).elim h2 h4⟩) h
end
/-! ### repr -/
def showB (p : PyData) : Bool := p.showable && (decide (p.depth ≤ 60) && decide (p.shown.length ≤ 100000))
def hRepr (as : List A) (S : Store) : Out A := match as with
  | [.val d] => (match toPyF d with
    | some p => if showB p = true then .ok (.val (.str p.shown)) S else .bad
    | none => .bad)
  | _ => .bad
section
variable {X : Cx} {cl : CL} {W : WX}
def rRepr (K : PySem.W.Frag) (cl : CL) : List V → Hp → VK → Prop := fun xs H Q => ∃ v d p, xs = [v] ∧ Rep K cl H v d ∧ (∃ o φ, H sysModules = some (.frz o (.ext φ))) ∧ toPyF d = some p ∧ showB p = true ∧ Q (.str p.shown) H
theorem call_reprR (gd : X.A.guards = some []) (hu : X.A.units + 64 < cLine) : CallR X (.builtin "repr") (rRepr X.K cl) := by
  intro pins s σ H xs us Q I r h
  obtain ⟨v, d, p, rfl, rd, sm, hp, hs, q⟩ := h
  obtain ⟨u, rfl, rv⟩ := vals1 r
  obtain ⟨s1, hs2⟩ := Bool.and_eq_true_iff.mp hs
  obtain ⟨s2, s3⟩ := Bool.and_eq_true_iff.mp hs2
  have hdep := of_decide_eq_true s2
  have hlen := sz_of (of_decide_eq_true s3)
  obtain ⟨as, hr, hsm⟩ := rep_reads I sm rd p u hp rv
  have ref : ∀ a, u = .ref a → wpAny (model X.prog X.w) X.A (call (.builtin "repr") [u]) (EP X pins σ Q) X.xe s := fun a e => by
    subst e
    exact repr_of_reads' hr s1 (fun _ => hsm) gd (by omega) (fun _ _ z => z) (fun h' t tk hk => ⟨.str p.shown, H, I.kept (t' := tk) hk, ⟨t, rfl⟩, q⟩) hlen
  cases hr with
  | none => exact PySem.P.repr_of_none ⟨.str _, H, I.tok _, ⟨_, rfl⟩, q⟩
  | bool b => exact PySem.P.repr_of_bool ⟨.str _, H, I.tok _, ⟨_, rfl⟩, q⟩
  | int i t => exact PySem.P.repr_of_int (of_decide_eq_true s1) ⟨.str _, H, I.tok _, ⟨_, rfl⟩, q⟩
  | str x t => exact PySem.P.repr_of_str ⟨.str _, H, I.tok _, ⟨_, rfl⟩, q⟩ hlen
  | list _ _ _ _ => exact ref _ rfl
  | tuple _ _ _ _ => exact ref _ rfl
  | dict _ _ _ _ _ => exact ref _ rfl
theorem b_repr (gd : X.A.guards = some []) (hu : X.A.units + 64 < cLine) : ∃ r, CallR X (.builtin "repr") r ∧ RdC X.K cl W r hRepr := by
  refine ⟨_, call_reprR (cl := cl) gd hu, fun σ Hv H S ad xs as Q so rs q => ?_⟩
  unfold hRepr at q
  split at q
  · rename_i d
    obtain ⟨v, rfl, r1⟩ := rep1 rs
    split at q
    · rename_i p hp
      split at q
      · rename_i hs
        exact ⟨v, d, p, rfl, Rep.mono so.ex r1, so.sm.elim fun o z => z.elim fun φ z => ⟨o, φ, so.ex _ _ z⟩, hp, hs, q.here so _ .str⟩
      · exact q.elim
    · exact q.elim
  · exact q.elim
end
end R


namespace R
open PySem L2

/-! ### attributes -/
def fldOf (f : Str) : List Str → List D → Option D
  | n :: ns, d :: ds => if f = n then some d else fldOf f ns ds
  | _, _ => none
def hAttr (t : CtT) (f : Str) (a : A) (S : Store) : Out A := match a with
  | .val (.exc c ns vs) => if c < t.n ∧ t.exc c = true ∧ f ∈ t.fld c then (match fldOf f ns vs with
    | some d => .ok (.val d) S
    | none => .bad) else .bad
  | .val (.obj c ns vs) => if c < t.n ∧ t.exc c = false ∧ f ∈ t.fld c then (match fldOf f ns vs with
    | some d => .ok (.val d) S
    | none => .bad) else .bad
  | .loc n => (match S[n]? with
    | some (some (.ins c ns vs)) => if c < t.n ∧ t.exc c = false ∧ f ∈ t.fld c then (match fldOf f ns vs with
      | some d => .ok (.val d) S
      | none => .bad) else .bad
    | _ => .bad)
  | _ => .bad
def rXfR (K : PySem.W.Frag) (f : Str) : V → Hp → VK → Prop := fun x H Q => ∃ (a C dx : Addr) (φ : Heap → Prop) (o : HO) (fs : List (Str × V)) (v : V), x = .ref a ∧ H a = some (.ext φ) ∧ IsExc φ a C (some dx) ∧ H dx = some o ∧ IsXd o dx fs ∧ ExcK K C ∧ PySem.W.findIn K (.ref C) f = some none ∧ fs.lookup f = some v ∧ Q v H
def rFldR (K : PySem.W.Frag) (f : Str) : V → Hp → VK → Prop := fun x H Q => ∃ a C dx fs v, x = .ref a ∧ H a = some (.ins C dx fs) ∧ Cls K C ∧ NoAttr K C f ∧ fs.lookup f = some v ∧ Q v H
theorem fld_lookup {K : PySem.W.Frag} {cl : CL} {H : Hp} {f : Str} : ∀ {fs : List (Str × V)} {ns : List Str} {vs : List D} {d : D}, fs.map (·.1) = ns → Reps K cl H (fs.map (·.2)) vs → fldOf f ns vs = some d → ∃ v, fs.lookup f = some v ∧ Rep K cl H v d
  | [], _, _, d, rfl, .nil, h => by cases h
  | (n, v) :: fs, _, _, d, rfl, .cons r rs, h => by
    simp only [List.map_cons, fldOf] at h
    by_cases e : f = n
    · rw [if_pos e] at h
      cases h
      exact ⟨v, by simp [List.lookup, e], r⟩
    · rw [if_neg e] at h
      obtain ⟨w, h1, h2⟩ := fld_lookup rfl rs h
      exact ⟨w, by simp [List.lookup, beq_eq_false_iff_ne.mpr e, h1], h2⟩
theorem flds_lookup {K : PySem.W.Frag} {cl : CL} {H : Hp} {f : Str} {fs : List (Str × V)} : ∀ {ns : List Str} {vs : List D} {d : D}, HasF fs ns → Reps K cl H (flds fs ns) vs → fldOf f ns vs = some d → ∃ v, fs.lookup f = some v ∧ Rep K cl H v d
  | [], _, d, _, .nil, h => by cases h
  | n :: ns, _, d, hf, .cons r rs, h => by
    simp only [fldOf] at h
    by_cases e : f = n
    · rw [if_pos e] at h
      cases h
      obtain ⟨v, hv⟩ := hf n List.mem_cons_self
      refine ⟨v, by rw [e]; exact hv, ?_⟩
      dsimp only at r
      rw [hv] at r
      exact r
    · rw [if_neg e] at h
      exact flds_lookup (fun m hm => hf m (List.mem_cons_of_mem _ hm)) rs h
section
variable {X : Cx} {cl : CL} {W : WX} {t : CtT} {e : Expr} {f : Str} {pos : Pos}
theorem pe_attrR {te : TE} (he : PE X e te) (hb : attributeBase e f X.env (eval e X.env) = eval e X.env) : PE X (.Attribute e f pos) (fun σ H Q => te σ H fun x H1 => rFldR X.K f x H1 Q ∨ rXfR X.K f x H1 Q) := by
  refine ⟨fun pins s σ H Q I h => ?_⟩
  refine attr_of hb (thn (he.run pins s σ H _ I h) fun u s1 ⟨x, H1, I1, rx, q⟩ => ?_)
  rcases q with ⟨a, C, dx, fs, v, rfl, ea, c, n, l, q⟩ | ⟨a, C, dx, φ, o, fs, v, rfl, ea, ie, ed, hx, k, hno, l, q⟩
  · obtain rfl : u = Value.ref a := rx
    exact getattr_ok I1 ea c n l fun u' s2 I2 ru => ⟨v, H1, I2, ru, q⟩
  · obtain rfl : u = Value.ref a := rx
    obtain ⟨oe, od, J, hod⟩ := inst_exc I1 ea ie fun dd z => by cases z; exact ⟨o, fs, ed, hx⟩
    obtain ⟨ob, rfl, hob⟩ := hod dx rfl
    obtain ⟨mA, hns, hr⟩ := xd_ns I1 ed hx
    obtain ⟨od2, ho2, hl⟩ := lookIn_ns hns
    rw [hob] at ho2
    cases ho2
    obtain ⟨u', hu, ru⟩ := RelO.some_of (v := v) (o := mA f) (by rw [← l]; exact hr f)
    exact HandSPX.exc_get I1.kIn J k.hg k.hk k.hs (PySem.W.findObj_own k.hd hno rfl (by rw [hl, hu])) (handed_of ru) ⟨v, H1, I1.tok _, ru, q⟩
theorem se_attr (T : CtOk t X.K cl) {fe : Ev A} (h : SE X cl W e fe) (hb : attributeBase e f X.env (eval e X.env) = eval e X.env := by rfl) : SE X cl W (.Attribute e f pos) (eUn (hAttr t f) fe) := by
  obtain ⟨_, p, r⟩ := h.ex
  refine ⟨_, pe_attrR p hb, fun σ Hv H S ad env Q re so q => ?_⟩
  refine r σ Hv H S ad env _ re so (q.bind.mono fun a S1 Hv1 ad1 H1 e1 p1 s1 q1 v1 r1 => ?_)
  unfold hAttr at q1
  split at q1
  · rename_i c ns vs
    split at q1
    · rename_i hc
      split at q1
      · rename_i d ed
        cases r1 with
        | @exc a dx φ o c fs ns vs hq hi ho hx hf rs =>
          obtain ⟨v, h1, h2⟩ := flds_lookup hf rs ed
          exact .inr ⟨a, _, dx, φ, o, fs, v, rfl, s1.ex _ _ hq, hi, s1.ex _ _ ho, hx, T.exk c hc.1 hc.2.1, T.noat c hc.1 f hc.2.2, h1, q1.here s1 v h2⟩
        | exc0 hq hi => cases ed
      · exact q1.elim
    · exact q1.elim
  · rename_i c ns vs
    split at q1
    · rename_i hc
      split at q1
      · rename_i d ed
        cases r1 with
        | @obj a dx c fs ns vs hq hn rs =>
          obtain ⟨v, h1, h2⟩ := fld_lookup hn rs ed
          exact .inl ⟨a, _, dx, fs, v, rfl, s1.ex _ _ hq, (T.obk c hc.1 hc.2.1).cl, T.noat c hc.1 f hc.2.2, h1, q1.here s1 v h2⟩
      · exact q1.elim
    · exact q1.elim
  · rename_i n
    split at q1
    · rename_i c ns vs ec
      split at q1
      · rename_i hc
        split at q1
        · rename_i d ed
          obtain ⟨x, rfl, hx⟩ := r1
          obtain ⟨x', g1, _, dx, fs, g3, g4, g5⟩ := s1.at_ n _ ec
          rw [hx] at g1
          cases g1
          obtain ⟨v, h1, h2⟩ := fld_lookup g4 g5 ed
          exact .inl ⟨x, _, dx, fs, v, rfl, g3, (T.obk c hc.1 hc.2.1).cl, T.noat c hc.1 f hc.2.2, h1, q1.here s1 v h2⟩
        · exact q1.elim
      · exact q1.elim
    · exact q1.elim
  · exact q1.elim

end
/-! ### in, not in -/
def inD (S : Store) (a b : A) : Option Bool := match a with
  | .val x => (match toPy x with
    | some p => if SeqAt.shaped p = true then (match lst? S b with
      | some ds => (match toPys ds with
        | some ps => if SeqAt.shaped (.list ps) = true then some (ps.any fun z => PyData.eqv z p) else none
        | none => none)
      | none => match tup? b with
        | some ds => (match toPys ds with
          | some ps => if SeqAt.shaped (.list ps) = true then some (ps.any fun z => PyData.eqv z p) else none
          | none => none)
        | none => none) else none
    | none => none)
  | _ => none
def inS (a b : A) : Option Bool := match a, b with
  | .val (.str i), .val (.str j) => some (!(Builtin.Str.occurrences j i 0 j.length 1).isEmpty)
  | _, _ => none
def inA (S : Store) (a b : A) : Option Bool := match inS a b with
  | some k => some k
  | none => inD S a b
def hIn (a b : A) (S : Store) : Out A := match inA S a b with
  | some k => .ok (.val (.bl k)) S
  | none => .bad
def hNotIn (a b : A) (S : Store) : Out A := match inA S a b with
  | some k => .ok (.val (.bl (!k))) S
  | none => .bad
section
variable {X : Cx} {cl : CL} {W : WX} {t : CtT} {e : Expr} {f : Str} {pos : Pos}
def rInT (K : PySem.W.Frag) (neg : Bool) : R2 := fun x y H Q => ∃ d ds, Dp K H x d ∧ Dp K H y (.tuple ds) ∧ SeqAt.shaped d = true ∧ SeqAt.shaped (.list ds) = true ∧ Q (.bl (if neg then !ds.any fun z => PyData.eqv z d else ds.any fun z => PyData.eqv z d)) H
theorem op_inT (hu : X.A.units + 65 < cLine) : OpR X (compareOp .In) (rInT X.K false) := by
  intro pins s σ H x y v u Q I rx ry h
  obtain ⟨d, ds, hd, he, sd, se, q⟩ := h
  obtain ⟨as, r1⟩ := Dp.reads I d x v hd rx
  obtain ⟨bs, r2⟩ := Dp.reads I (.tuple ds) y u he ry
  exact SeqAt.in_tuple_reads r2 r1 (SeqAt.canLay_of_shaped se) (SeqAt.canLay_of_shaped sd) (PyProof.Rows.room_in_shaped sd hu) ⟨.bl _, H, I, rfl, q⟩
theorem op_notInT (hu : X.A.units + 65 < cLine) : OpR X (compareOp .NotIn) (rInT X.K true) := by
  intro pins s σ H x y v u Q I rx ry h
  obtain ⟨d, ds, hd, he, sd, se, q⟩ := h
  obtain ⟨as, r1⟩ := Dp.reads I d x v hd rx
  obtain ⟨bs, r2⟩ := Dp.reads I (.tuple ds) y u he ry
  exact SeqAt.notIn_tuple_reads r2 r1 (SeqAt.canLay_of_shaped se) (SeqAt.canLay_of_shaped sd) (PyProof.Rows.room_in_shaped sd hu) ⟨.bl _, H, I, rfl, q⟩
theorem inD_cases {Hv H : Hp} {S : Store} {ad : List Addr} {x y : V} {a b : A} {k : Bool} (so : StOk X.K cl Hv H S ad) (rx : RepA X.K cl Hv ad x a) (ry : RepA X.K cl Hv ad y b) (h : inD S a b = some k) :
    ∃ d ds, Dp X.K H x d ∧ SeqAt.shaped d = true ∧ SeqAt.shaped (.list ds) = true ∧ (ds.any fun z => PyData.eqv z d) = k ∧ (Dp X.K H y (.list ds) ∨ Dp X.K H y (.tuple ds)) := by
  unfold inD at h
  split at h
  · rename_i dx
    split at h
    · rename_i p ep
      split at h
      · rename_i hs
        have dx := rep_dp (Rep.mono so.ex rx) p ep
        split at h
        · rename_i ds el
          obtain ⟨p1, xs, rfl, h1, rs⟩ := lst_at so ry el
          split at h
          · rename_i ps eps
            split at h
            · rename_i hs2
              cases h
              exact ⟨p, ps, dx, hs, hs2, rfl, .inl (.lst (.inl (.inl h1)) (reps_dp (rs.mono so.ex) eps))⟩
            · cases h
          · cases h
        · split at h
          · rename_i ds el
            obtain ⟨p1, xs, rfl, h1, rs⟩ := tup_at so ry el
            split at h
            · rename_i ps eps
              split at h
              · rename_i hs2
                cases h
                exact ⟨p, ps, dx, hs, hs2, rfl, .inr (.tup h1 (reps_dp (rs.mono so.ex) eps))⟩
              · cases h
            · cases h
          · cases h
      · cases h
    · cases h
  · cases h
theorem o_in (hu : X.A.units + 65 < cLine) : ∃ r, OpR X (compareOp .In) r ∧ RdO X.K cl W r hIn := by
  refine ⟨_, opOr op_in_str (opOr (op_inD hu) (op_inT hu)), fun σ Hv H S ad x y a b Q so rx ry q => ?_⟩
  unfold hIn at q
  split at q
  · rename_i k e
    unfold inA at e
    split at e
    · rename_i k' e'
      cases e
      unfold inS at e'
      split at e'
      · cases e'
        cases rx
        cases ry
        exact .inl ⟨_, _, rfl, rfl, q.here so _ .bl⟩
      · cases e'
    · obtain ⟨d, ds, h1, h2, h3, rfl, h4 | h4⟩ := inD_cases so rx ry e
      · exact .inr (.inl ⟨d, ds, h1, h4, h2, h3, q.here so _ .bl⟩)
      · exact .inr (.inr ⟨d, ds, h1, h4, h2, h3, q.here so _ .bl⟩)
  · exact q.elim
theorem o_notIn (hu : X.A.units + 65 < cLine) : ∃ r, OpR X (compareOp .NotIn) r ∧ RdO X.K cl W r hNotIn := by
  refine ⟨_, opOr op_notin_str (opOr (op_notInD hu) (op_notInT hu)), fun σ Hv H S ad x y a b Q so rx ry q => ?_⟩
  unfold hNotIn at q
  split at q
  · rename_i k e
    unfold inA at e
    split at e
    · rename_i k' e'
      cases e
      unfold inS at e'
      split at e'
      · cases e'
        cases rx
        cases ry
        exact .inl ⟨_, _, rfl, rfl, q.here so _ .bl⟩
      · cases e'
    · obtain ⟨d, ds, h1, h2, h3, rfl, h4 | h4⟩ := inD_cases so rx ry e
      · exact .inr (.inl ⟨d, ds, h1, h4, h2, h3, q.here so _ .bl⟩)
      · exact .inr (.inr ⟨d, ds, h1, h4, h2, h3, q.here so _ .bl⟩)
  · exact q.elim

/-! ### a < b < c -/
def eChain (h1 h2 : A → A → Store → Out A) (f g k : Ev A) : Ev A := fun env S => (f env S).bind fun a S1 => (g env S1).bind fun b S2 => (h1 a b S2).bind fun z S3 => match z with
  | .val (.bl true) => (k env S3).bind fun c S4 => h2 b c S4
  | .val (.bl false) => .ok (.val (.bl false)) S3
  | _ => .bad
variable {a b c : Expr} {op op' : CmpOp} {h1 h2 : A → A → Store → Out A} {fa fb fc : Ev A}
theorem rd_chain {r r' : R2} {ta tb tc : TE} (ra : RdE X.K cl W ta fa) (rb : RdE X.K cl W tb fb) (rc : RdE X.K cl W tc fc) (r1 : RdO X.K cl W r h1) (r2 : RdO X.K cl W r' h2) : RdE X.K cl W (tChain r r' ta tb tc) (eChain h1 h2 fa fb fc) := fun σ Hv H S ad env Q re so q =>
  ra σ Hv H S ad env _ re so (q.bind.mono fun a S1 Hv1 ad1 H1 e1 p1 s1 q1 v1 w1 =>
    rb σ Hv1 H1 S1 ad1 env _ (re.mono e1 p1) s1 (q1.bind.mono fun b S2 Hv2 ad2 H2 e2 p2 s2 q2 v2 w2 =>
      r1 σ Hv2 H2 S2 ad2 v1 v2 a b _ s2 (w1.mono e2 p2) w2 (q2.bind.mono fun z S3 Hv3 ad3 H3 e3 p3 s3 q3 v3 w3 => by
        split at q3
        · cases w3
          exact ⟨true, rfl, rc σ Hv3 H3 S3 ad3 env _ (((re.mono e1 p1).mono e2 p2).mono e3 p3) s3 (q3.bind.mono fun c S4 Hv4 ad4 H4 e4 p4 s4 q4 v4 w4 => r2 σ Hv4 H4 S4 ad4 v2 v4 b c Q s4 ((w2.mono e3 p3).mono e4 p4) w4 q4)⟩
        · cases w3
          exact ⟨false, rfl, q3.here s3 _ .bl⟩
        · exact q3.elim)))
theorem se_chain (o1 : ∃ r, OpR X (compareOp op) r ∧ RdO X.K cl W r h1) (o2 : ∃ r, OpR X (compareOp op') r ∧ RdO X.K cl W r h2) (ha : SE X cl W a fa) (hb : SE X cl W b fb) (hc : SE X cl W c fc) (hm : lastMarks [op, op'] [b, c] = false := by with_unfolding_all rfl) :
    SE X cl W (.Compare a [op, op'] [b, c] pos) (eChain h1 h2 fa fb fc) :=
  let ⟨_, pa, ra⟩ := ha.ex
  let ⟨_, pb, rb⟩ := hb.ex
  let ⟨_, pc, rc⟩ := hc.ex
  let ⟨_, p1, r1⟩ := o1
  let ⟨_, p2, r2⟩ := o2
  ⟨_, pe_chain p1 p2 pa pb pc hm, rd_chain ra rb rc r1 r2⟩
theorem st_chain (o1 : ∃ r, OpR X (compareOp op) r ∧ RdO X.K cl W r h1) (o2 : ∃ r, OpR X (compareOp op') r ∧ RdO X.K cl W r h2) (ha : SE X cl W a fa) (hb : SE X cl W b fb) (hc : SE X cl W c fc) (hm : lastMarks [op, op'] [b, c] = false := by with_unfolding_all rfl) :
    ST X cl W (.Compare a [op, op'] [b, c] pos) (tBool (eChain h1 h2 fa fb fc)) := by
  obtain ⟨_, pa, ra⟩ := ha.ex
  obtain ⟨_, pb, rb⟩ := hb.ex
  obtain ⟨_, pc, rc⟩ := hc.ex
  obtain ⟨_, p1, r1⟩ := o1
  obtain ⟨_, p2, r2⟩ := o2
  refine ⟨_, pt_chain p1 p2 pa pb pc hm, fun σ Hv H S ad env Q re so q => ?_⟩
  refine rd_chain ra rb rc r1 r2 σ Hv H S ad env _ re so (q.bind.mono fun z S1 Hv1 ad1 H1 e1 p1 s1 q1 v1 w1 => ?_)
  split at q1
  · cases w1
    exact ⟨_, rfl, q1.hereB s1⟩
  · exact q1.elim

/-! ### products: ints, texts, lists -/
def strMulOk (x : Str) (n : Int) : Bool := decide (0 ≤ n) && (decide (n ≤ 100000) && decide (x.length * n.toNat ≤ 100000))
def hMulA (a b : A) (S : Store) : Out A := match a, b with
  | .val (.str x), .val (.int n) => if strMulOk x n = true then .ok (.val (.str (Txt.mul x n))) S else .bad
  | .val (.lst ds), .val (.int n) => if 0 ≤ n ∧ n ≤ 100000 ∧ ds.length * n.toNat ≤ 100000 then .ok (.val (.lst (List.replicate n.toNat ds).flatten)) S else .bad
  | a, b => hMul a b S
theorem op_mulS : OpR X (binaryOp .Mult) (fun x y H Q => ∃ z n, x = .str z ∧ y = .int n ∧ strMulOk z n = true ∧ Q (.str (Txt.mul z n)) H) := by
  intro pins s σ H x y v u Q I rx ry h
  obtain ⟨z, n, rfl, rfl, hk, q⟩ := h
  obtain ⟨t, rfl⟩ := rx
  obtain ⟨t', rfl⟩ := ry
  obtain ⟨k1, k2⟩ := Bool.and_eq_true_iff.mp hk
  obtain ⟨k3, k4⟩ := Bool.and_eq_true_iff.mp k2
  have k1 := of_decide_eq_true k1
  have k3 := of_decide_eq_true k3
  have k4 := of_decide_eq_true k4
  refine SB.mul ⟨?_, fun h1 h2 => ?_, fun h1 h2 => ?_⟩ fun t' k => ⟨.str _, H, I.kept (t' := k) fun _ _ z => z, ⟨t', rfl⟩, q⟩
  · rw [decide_eq_false (by omega), decide_eq_false (by omega)]
    rfl
  · have hn : 0 < n := by omega
    have hz : z.length ≤ 100000 := by
      have : 1 ≤ n.toNat := by omega
      have := Nat.le_mul_of_pos_right z.length this
      omega
    have h3 : (92233720368547 : Int) ≤ (2 ^ 63 - 1) / n := by
      rw [Int.le_ediv_iff_mul_le hn]
      omega
    omega
  · unfold Builtin.Str.tooLong
    have h5 := sz_of k4
    simp
    omega
theorem rep_flat {K : PySem.W.Frag} {H : Hp} {vs : List V} {ds : List D} (r : Reps K cl H vs ds) : ∀ n : Nat, Reps K cl H (List.replicate n vs).flatten (List.replicate n ds).flatten
  | 0 => .nil
  | n + 1 => by
    rw [List.replicate_succ, List.replicate_succ, List.flatten_cons, List.flatten_cons]
    exact r.append (rep_flat r n)
theorem o_mulA : ∃ r, OpR X (binaryOp .Mult) r ∧ RdO X.K cl W r hMulA := by
  obtain ⟨r, h1, h2⟩ := o_mul (X := X) (cl := cl) (W := W)
  refine ⟨_, opOr op_mulS (opOr op_rep h1), fun σ Hv H S ad x y a b Q so rx ry q => ?_⟩
  unfold hMulA at q
  split at q
  · split at q
    · rename_i hk
      cases rx
      cases ry
      exact .inl ⟨_, _, rfl, rfl, hk, q.here so _ .str⟩
    · exact q.elim
  · rename_i ds n
    split at q
    · rename_i hk
      cases rx with
      | lst hq rs =>
        cases ry
        refine .inr (.inl ⟨_, n, _, rfl, rfl, so.ex _ _ hq, by omega, by omega, sz_of (by rw [rs.length]; exact hk.2.2), fun p hp => q.made so hp (.lst upd_same ((rep_flat rs _).mono (Ex.new (so.ex.nn hp))))⟩)
    · exact q.elim
  · exact .inr (.inr (h2 σ Hv H S ad x y a b Q so rx ry q))
end
end R


namespace R
open PySem L2 PySem.HandSPX

/-! ### an own exception class called by keywords -/
section
variable {M : Model} {A : Around} {E : Value → Shared → Prop} {h : Heap} {g : Array GenState} {d : Drawn} {t : Nat} {os : OsState}
variable {nm q : Str} {C N : Addr} {bs bm bmB : List Value} {hdct : Bool} {sn : List Str} {sub : List Value} {ab : Bool} {col : Option Bool} {dd : Option Addr} {k0 k1 k2 k3 k5 : Option Value} {B newId initId : String}
theorem check_new_kw (F : ExcBaseFacts B newId initId bmB) (hT : ∀ X : String, bm.contains (.type X) = bmB.contains (.type X)) {rest : List Value} {kw : List (Str × Value)} {Q : Unit → Shared → Prop}
    (hC : h.get? C = some (excClassObj nm q C N bs bm hdct sn sub ab col dd k0 k1 k2 k3 k5 newId)) (hq : Q () ⟨h, g, d, t, os⟩) : wpAny M A (checkBuiltinCall newId ⟨.ref C :: rest, kw⟩) Q E ⟨h, g, d, t, os⟩ := by
  have hcont : (Value.ref C :: bm).contains (.type B) = true := by rw [List.contains_cons, hT, F.hasB, Bool.or_true]
  have hstar := F.noStar
  simp only [checkBuiltinCall, F.newKind, F.newSplit, F.newRow]
  repeat (first | refine wpAny_loadPart_at hC ?_ | (refine wpAny_isSubtype_exc hC ?_; rw [hcont]) | refine wpAny_staticBase_exc hC ?_ | refine wpAny_madeBy_exc hC ?_ | simp only [bne_self_eq_false, Bool.false_eq_true, if_false] | wp_step)
  exact hq
end
section
variable {prog : Program} {w : World} {A : Around} {E : Value → Shared → Prop} {R : Result → Shared → Prop} {h : Heap} {g : Array GenState} {d : Drawn} {t : Nat} {os : OsState}
variable {nm q : Str} {C N : Addr} {bs bm bmB : List Value} {hdct : Bool} {sn : List Str} {sub : List Value} {ab : Bool} {col : Option Bool} {dd : Option Addr} {k0 k1 k2 k3 k5 : Option Value} {B newId initId : String}
theorem new_kw (F : ExcBaseFacts B newId initId bmB) (hT : ∀ X : String, bm.contains (.type X) = bmB.contains (.type X)) {rest : List Value} {kw : List (Str × Value)}
    (hC : h.get? C = some (excClassObj nm q C N bs bm hdct sn sub ab col dd k0 k1 k2 k3 k5 newId))
    (hq : R (.ok (.ret (.ref (h.objs.size + 1)))) ⟨(h.push { cls := .type "tuple", data := .seq rest.toArray }).push
      { cls := .ref C, data := .fields #[.ref h.objs.size, .none, .none, .none, .bool false, .none] }, g, d, t, os⟩) (hrest : rest.length ≤ sizeLine) :
    codeAny (model prog w) A (.builtin newId ⟨.ref C :: rest, kw⟩) R ⟨h, g, d, t, os⟩ := by
  have hends := F.ends
  have hcB : (Value.ref C :: bm).contains (.type B) = true := by rw [List.contains_cons, hT, F.hasB, Bool.or_true]
  have hcA : (Value.ref C :: bm).contains (.type "AttributeError") = false := by rw [List.contains_cons, hT, F.noAttr]; rfl
  have hcN : (Value.ref C :: bm).contains (.type "NameError") = false := by rw [List.contains_cons, hT, F.noName]; rfl
  refine codeAny_builtinAt F.entry ?_
  unfold Builtin.«BaseException.__new__»
  refine wpAt_bind ?_
  show wpAt _ _ _ (stack >>= _) _ _ _
  refine wpAt_bind (wpAt_stack fun p below => wpAt_of_wpAny ?_)
  wp_walk
  refine wpAt_of_wpAny ?_
  rw [F.owner]
  repeat (first | with_reducible refine wpAny_madeHere_exc F.canon hC ?_ | with_reducible refine wpAny_loadPart_at hC ?_ | (with_reducible refine wpAny_isSubtype_exc hC ?_; first | rw [hcB] | rw [hcA] | rw [hcN]) | wp_step)
  show R _ _
  rw [Heap.size_push]
  exact hq
theorem type_call_kw (F : ExcBaseFacts B newId initId bmB) (hT : ∀ X : String, bm.contains (.type X) = bmB.contains (.type X)) {rest : List Value} {kw : List (Str × Value)} {fI : Addr} {Q : Fin → Shared → Prop}
    (hC : h.get? C = some (excClassObj nm q C N bs bm hdct sn sub ab col dd k0 k1 k2 k3 k5 newId))
    (hi : W.Looks (model prog w) h (typeLookup (.ref C) "__init__") (some (.ref fI))) (hb : ∀ self, W.Looks (model prog w) h (bindSpecial (.ref fI) self) (.ref fI, [self])) (hrest : rest.length ≤ sizeLine)
    (hq : codeAny (model prog w) A (.call (.ref fI) ⟨.ref (h.objs.size + 1) :: rest, kw⟩)
      (fun r s' => match r with | .ok (.ret v) => v = .none ∧ Q (.done (.ret (.ref (h.objs.size + 1)))) s' | .ok _ => False | .error e => E e s')
      ⟨(h.push (W.kdv_tup rest)).push (excO C h.objs.size), g, d, t, os⟩) :
    wpAny (model prog w) A (Builtin.«type.__call__» ⟨.ref C :: rest, kw⟩) Q E ⟨h, g, d, t, os⟩ := by
  repeat (first | with_reducible refine wpAny_loadPart_at hC ?_ | with_reducible refine wpAny_madeBy_exc hC ?_ | wp_step)
  refine codeAny_call_builtin_code (Code.quiet_builtin _ F.quiet) (check_new_kw F hT hC ?_)
  refine new_kw F hT hC ?_ hrest
  show wpAny _ _ _ _ _ _
  have k : ∀ b o, h.get? b = some o → ((h.push (W.kdv_tup rest)).push (excO C h.objs.size)).get? b = some o := fun b o e => Heap.get?_push_of_some _ (Heap.get?_push_of_some _ e)
  have hC₁ := k _ _ hC
  have hget : ((h.push (W.kdv_tup rest)).push (excO C h.objs.size)).get? (h.objs.size + 1) = some (excO C h.objs.size) := by heap_get
  have hcC : (Value.ref C :: bm).contains (.ref C) = true := by simp
  have i1 := hi.keeps k
  have b1 := (hb (.ref (h.objs.size + 1))).keeps k
  unfold isInstance
  repeat (first | with_reducible refine wpAny_loadPart_at hget ?_ | (with_reducible refine wpAny_isSubtype_exc hC₁ ?_; rw [hcC]) | wp_step)
  show wpAny _ _ (typeLookup (.ref C) _) _ _ _
  refine i1.at ?_
  refine wpAny_holding (wpAny_bind (b1.at ?_))
  refine wpAny_bind (wpAny_call (codeAny_mono hq fun r s' z => ?_))
  rcases r with e | (v | _ | _ | _) <;> first | exact z | exact z.elim | skip
  obtain ⟨rfl, z⟩ := z
  first
    | exact wpAny_pure (wpAny_pure z)
    | (wp_walk; exact z)
theorem check_type_call_kw {M : Model} {rest : List Value} {kw : List (Str × Value)} {Q : Unit → Shared → Prop} (hC : h.get? C = some (excClassObj nm q C N bs bm hdct sn sub ab col dd k0 k1 k2 k3 k5 newId))
    (hq : Q () ⟨h, g, d, t, os⟩) : wpAny M A (checkBuiltinCall "type.__call__" ⟨.ref C :: rest, kw⟩) Q E ⟨h, g, d, t, os⟩ := by
  have f3 := tc_sub
  have hT : (⟨h, g, d, t, os⟩ : Shared).TypeIs (.ref C) "type" := ⟨_, hC, rfl⟩
  simp only [checkBuiltinCall, tc_kind, tc_split]
  repeat (any_goals (first | assumption | with_reducible refine wpAny_loadPart_at hC ?_ | with_reducible refine wpAny_onRaise ?_ | with_reducible refine wpAny_map ?_ | wp_step))
theorem call_kw (F : ExcBaseFacts B newId initId bmB) (hT : ∀ X : String, bm.contains (.type X) = bmB.contains (.type X)) {rest : List Value} {kw : List (Str × Value)} {fI : Addr}
    (hC : h.get? C = some (excClassObj nm q C N bs bm hdct sn sub ab col dd k0 k1 k2 k3 k5 newId))
    (hi : W.Looks (model prog w) h (typeLookup (.ref C) "__init__") (some (.ref fI))) (hb : ∀ self, W.Looks (model prog w) h (bindSpecial (.ref fI) self) (.ref fI, [self])) (hrest : rest.length ≤ sizeLine)
    (hq : codeAny (model prog w) (A.under (.builtin "type.__call__" ⟨.ref C :: rest, kw⟩)) (.call (.ref fI) ⟨.ref (h.objs.size + 1) :: rest, kw⟩) (W.InitBack (h.objs.size + 1) R)
      ⟨(h.push (W.kdv_tup rest)).push (excO C h.objs.size), g, d, t, os⟩) :
    codeAny (model prog w) A (.call (.ref C) ⟨rest, kw⟩) R ⟨h, g, d, t, os⟩ := by
  have f1 := tc_lookup
  have f2 := tc_bind (.ref C)
  have hTy : (⟨h, g, d, t, os⟩ : Shared).TypeIs (.ref C) "type" := ⟨_, hC, rfl⟩
  refine codeAny_of_tree ?_
  show wpAny _ _ (callAny (.ref C) _) _ _ _
  repeat (any_goals (first | assumption | with_reducible refine wpAny_loadPart_at hC ?_ | wp_step))
  refine ⟨rfl, ?_⟩
  refine codeAny_call_builtin_at (Code.quiet_builtin _ (by decide +kernel)) entry_typeCall (check_type_call_kw hC (type_call_kw F hT hC hi hb hrest ?_))
  refine codeAny_mono hq fun r s' z => ?_
  rcases r with e | (v | _ | _ | _) <;> exact z
end

theorem paired_ix {α β : Type} {R : α → β → Prop} : ∀ {xs : List α} {ys : List β}, Paired R xs ys → ∀ i : Nat, (∃ x y, xs[i]? = some x ∧ ys[i]? = some y ∧ R x y) ∨ (xs[i]? = none ∧ ys[i]? = none)
  | _, _, .nil, i => .inr ⟨by simp, by simp⟩
  | _, _, .cons r _, 0 => .inl ⟨_, _, rfl, rfl, r⟩
  | _, _, .cons _ t, i + 1 => by simpa using paired_ix t i
theorem paired_perm {α β : Type} {R : α → β → Prop} {xs : List α} {ys : List β} (h : Paired R xs ys) : ∀ p : List Nat, Paired R (permL p xs) (permL p ys)
  | [] => .nil
  | i :: p => by
    rcases paired_ix h i with ⟨x, y, e1, e2, r⟩ | ⟨e1, e2⟩
    · have a : permL (i :: p) xs = x :: permL p xs := by unfold permL; rw [List.filterMap_cons, e1]
      have b : permL (i :: p) ys = y :: permL p ys := by unfold permL; rw [List.filterMap_cons, e2]
      rw [a, b]
      exact .cons r (paired_perm h p)
    · have a : permL (i :: p) xs = permL p xs := by unfold permL; rw [List.filterMap_cons, e1]
      have b : permL (i :: p) ys = permL p ys := by unfold permL; rw [List.filterMap_cons, e2]
      rw [a, b]
      exact paired_perm h p
theorem repAs_paired {K : PySem.W.Frag} {cl : CL} {Hv : Hp} {ad : List Addr} : ∀ {vs : List V} {as : List A}, RepAs K cl Hv ad vs as → Paired (RepA K cl Hv ad) vs as
  | _, _, .nil => .nil
  | _, _, .cons a b => .cons a (repAs_paired b)
theorem paired_repAs {K : PySem.W.Frag} {cl : CL} {Hv : Hp} {ad : List Addr} : ∀ {vs : List V} {as : List A}, Paired (RepA K cl Hv ad) vs as → RepAs K cl Hv ad vs as
  | _, _, .nil => .nil
  | _, _, .cons a b => .cons a (paired_repAs b)
theorem RepAs.perm {K : PySem.W.Frag} {cl : CL} {Hv : Hp} {ad : List Addr} {vs : List V} {as : List A} (h : RepAs K cl Hv ad vs as) (p : List Nat) : RepAs K cl Hv ad (permL p vs) (permL p as) := paired_repAs (paired_perm (repAs_paired h) p)

/-! ### C(k = e, ..) as a value -/
def tOexK (C : Addr) (n : Nat) (p : List Nat) (sp : Sp) (tk : TA) : TE := fun σ H Q => tk σ H fun vs H1 => vs.length = n ∧ ∀ a, H1 a = none → sp (.ref a :: permL p vs) (upd H1 a (exo a C none)) (fun v H2 => v = .non ∧ Q (.ref a) H2) (fun _ _ _ => False)
section
variable {X : Cx} {kws : List Keyword} {ks : List Str} {pm : List Nat} {tk : TA} {p pos : Pos} {x : Str} {C fI : Addr} {k : Nat} {fd : FuncData} {ps : List Str} {sp : Sp} {W : WX}
theorem run_oexK {pins : List (Addr × Obj)} {σ : St} {H1 : Hp} {s1 : Shared} {Q : VK} {us : List Value} {vs : List V} (T : OexC X.K C) (iC : PySem.W.findIn X.K (.ref C) "__init__" = some (some (.ref fI))) (tI : PySem.W.typeIn X.K (.ref fI) = some (.type "function"))
    (F1 : FnOk X.prog X.w X.K X.mg X.base (L2.CX X.prog X.w) k fI fd ps sp) (hr : Room (k + 1) X.A) (hb : KwB fd ps (ks, pm)) (I1 : Inv X pins σ H1 s1) (r1 : Vals vs us) (hz : vs.length = ks.length)
    (q1 : ∀ a, H1 a = none → sp (.ref a :: permL pm vs) (upd H1 a (exo a C none)) (fun v H2 => v = .non ∧ Q (.ref a) H2) (fun _ _ _ => False)) : wpAny (model X.prog X.w) X.A (call (.ref C) [] (ks.zip us)) (EP X pins σ Q) X.xe s1 := by
  obtain ⟨nm, q, N, bs, bm, sn, sub, ab, col, dd, k0, k1, k2, k3, k5, hC, hbm⟩ := T.cls
  obtain ⟨hp, g, dr, tk, os⟩ := s1
  have hsz : hp.objs.size ≤ hp.objs.size + 1 := Nat.le_succ _
  have hn : H1 (hp.objs.size + 1) = none := I1.hok.fresh hsz
  have hq := q1 (hp.objs.size + 1) hn
  have kk : ∀ b o, hp.get? b = some o → ((hp.push (PySem.W.kdv_tup [])).push (PySem.HandSPX.excO C hp.objs.size)).get? b = some o := fun b o e => Heap.get?_push_of_some _ (Heap.get?_push_of_some _ e)
  have hget : ((hp.push (PySem.W.kdv_tup [])).push (PySem.HandSPX.excO C hp.objs.size)).get? (hp.objs.size + 1) = some (PySem.HandSPX.excO C hp.objs.size) := by heap_get
  have I2 : Inv X pins σ (upd H1 (hp.objs.size + 1) (exo (hp.objs.size + 1) C none)) ⟨(hp.push (PySem.W.kdv_tup [])).push (PySem.HandSPX.excO C hp.objs.size), g, dr, tk, os⟩ :=
    I1.laid (t' := tk) (a := hp.objs.size + 1) (o := exo (hp.objs.size + 1) C none) (h' := (hp.push (PySem.W.kdv_tup [])).push (PySem.HandSPX.excO C hp.objs.size)) kk hsz (exo_ok hget)
  have r2 : Vals (V.ref (hp.objs.size + 1) :: permL pm vs) (Value.ref (hp.objs.size + 1) :: permL pm us) := .cons rfl (paired_perm r1 pm)
  have hus : us.length = ks.length := by rw [← Paired.length r1]; exact hz
  have hbb := hb ⟨(hp.push (PySem.W.kdv_tup [])).push (PySem.HandSPX.excO C hp.objs.size), g, dr, tk, os⟩ (Value.ref (hp.objs.size + 1)) us hus
  refine wpAny_call (call_kw F.excBase_ValueError (fun Y => PySem.HandSPX.refsVE_contains Y bm hbm) (I1.kIn _ _ hC) (PySem.W.looks_findIn I1.kIn iC) (fun self => PySem.W.bind_fn I1.kIn self tI) (by decide)
    (codeAny_mono (F1.run _ X.stack _ _ ⟨[Value.ref (hp.objs.size + 1)], ks.zip us⟩ (Value.ref (hp.objs.size + 1) :: permL pm us) _ _ (fun _ _ _ => False) (hr.make C [] (ks.zip us)) (I2.env0.make C [] (ks.zip us)) hbb r2 hq) fun r s' hq' => ?_))
  cases r with
  | error er => exact (passL (X := X) pins σ _ _ er s' I2 hq')
  | ok fl =>
    cases fl with
    | ret u =>
      obtain ⟨v, H2, J, rv, ev, q2⟩ := I2.after hq'
      subst ev
      exact ⟨rv, ⟨.ref (hp.objs.size + 1), H2, J, rfl, q2⟩⟩
    | next => exact False.elim hq'
    | brk => exact False.elim hq'
    | cont => exact False.elim hq'
theorem pe_oexK (T : OexC X.K C) (iC : PySem.W.findIn X.K (.ref C) "__init__" = some (some (.ref fI))) (tI : PySem.W.typeIn X.K (.ref fI) = some (.type "function"))
    (F1 : FnOk X.prog X.w X.K X.mg X.base (L2.CX X.prog X.w) k fI fd ps sp) (hr : Room (k + 1) X.A) (hb : KwB fd ps (ks, pm)) (hg : Gl X x) (hm : X.mg x = some (.ref C)) (hkw : PK X kws tk)
    (hall : (backToKw pos (keywordEach kws X.env)).all (·.1.isSome) = true := by rfl) (hks : (backToKw pos (keywordEach kws X.env)).filterMap (·.1) = ks := by rfl)
    (hdb : (x == ("__debug__" : Str)) = false := by decide) (hpl : ((backTo pos (starEach [] X.env)).any (·.1) || (backToKw pos (keywordEach kws X.env)).any (·.1.isNone)) = false := by rfl) :
    PE X (.Call (.Name x p) [] kws pos) (tOexK C ks.length pm sp tk) := by
  refine ⟨fun pins s σ H Q I h => ?_⟩
  refine wpAny_Call_Name_kw (ld_glob I hg hm ?_ hdb)
  refine PySem.W.callWith_KW0 (h₀ := X.base) I.ok.mod.kin T.kC hall (thn (hkw.run pos pins s σ H _ I h) fun us s1 ⟨vs, H1, I1, r1, hz, q1⟩ => ⟨I1.kIn, ?_⟩) hpl
  rw [hks]
  exact run_oexK T iC tI F1 hr hb I1 r1 hz q1
end
structure SK (X : Cx) (cl : CL) (W : WX) (kws : List Keyword) (f : Ev (List A)) : Prop where
  ex : ∃ t, PK X kws t ∧ RdA X.K cl W t f
def hMkK (c : Nat) (ns : List Str) (n : Nat) (p : List Nat) (as : List A) (S : Store) : Out A := if as.length = n then hMkX c ns (permL p as) S else .bad
section
variable {X : Cx} {cl : CL} {W : WX} {kws : List Keyword} {nm : Option Str} {p pos kpos : Pos} {x : Str} {c : Nat} {ns ks : List Str} {pm : List Nat} {kbs : List (List Str × List Nat)} {f : Ev (List A)}
theorem sk_nil : SK X cl W [] eNil := ⟨_, pk_nil, fun σ Hv H S ad env Q re so h => h.here so [] .nil⟩
theorem sk_cons {e : Expr} {f : Ev A} {g : Ev (List A)} (ha : SE X cl W e f) (hr : SK X cl W kws g) : SK X cl W (⟨nm, e, kpos⟩ :: kws) (eCons f g) := by
  obtain ⟨_, pa, ra⟩ := ha.ex
  obtain ⟨_, pb, rb⟩ := hr.ex
  refine ⟨_, pk_cons pa pb, fun σ Hv H S ad env Q re so q => ?_⟩
  exact ra σ Hv H S ad env _ re so (q.bind.mono fun a S1 Hv1 ad1 H1 e1 p1 s1 q1 v1 r1 =>
    rb σ Hv1 H1 S1 ad1 env _ (re.mono e1 p1) s1 (q1.bind.mono fun as S2 Hv2 ad2 H2 e2 p2 s2 q2 vs r2 => q2.here s2 (v1 :: vs) (.cons (r1.mono e2 p2) r2)))
theorem se_mkk {n : Nat} (F : ExR X.prog X.w X.K X.mg X.base (cl c) ns kbs) (i : Nat) (hr : Room 2 X.A) (hm : X.mg x = some (.ref (cl c))) (ha : SK X cl W kws f) (hi : kbs[i]? = some (ks, pm) := by rfl) (hn : ks.length = n := by rfl) (hg : Gl X x := by rfl)
    (hall : (backToKw pos (keywordEach kws X.env)).all (·.1.isSome) = true := by rfl) (hks : (backToKw pos (keywordEach kws X.env)).filterMap (·.1) = ks := by rfl)
    (hdb : (x == ("__debug__" : Str)) = false := by decide) (hpl : ((backTo pos (starEach [] X.env)).any (·.1) || (backToKw pos (keywordEach kws X.env)).any (·.1.isNone)) = false := by rfl) :
    SE X cl W (.Call (.Name x p) [] kws pos) (eApp (hMkK c ns n pm) f) := by
  subst hn
  obtain ⟨fI, fd, ps, T, iC, tI, hb, hps, F1, hkb⟩ := F.ex
  obtain ⟨_, pa, ra⟩ := ha.ex
  refine ⟨_, pe_oexK T iC tI F1 hr (hkb _ (List.mem_of_getElem? hi)) hg hm pa hall hks hdb hpl, fun σ Hv H S ad env Q re so q => ?_⟩
  refine ra σ Hv H S ad env _ re so (q.bind.mono fun as S1 Hv1 ad1 H1 e1 p1 s1 q1 vs r1 => ?_)
  unfold hMkK at q1
  by_cases hn : as.length = ks.length
  · rw [if_pos hn] at q1
    have r2 := r1.perm pm
    unfold hMkX at q1
    split at q1
    · rename_i ds ed
      have rs := vals_rep r2 ed
      split at q1
      · rename_i hl
        refine ⟨by rw [r1.length, hn], fun a h1 => ⟨a, permL pm vs, rfl, by rw [rs.length]; exact hl, upd_same, fun dx h2 h3 => ⟨rfl, mkx_end s1 rs hl F.nd h1 h2 h3 q1⟩⟩⟩
      · exact q1.elim
    · exact q1.elim
  · rw [if_neg hn] at q1
    exact q1.elim
/-- C(): an own exception class without own __init__ -/
theorem pe_exc0 {C : Addr} {bmB : List Value} {B newId initId : String} (F : ExcBaseFacts B newId initId bmB) (q : PySem.W.excIn X.K C bmB newId = true) (gC : X.mg x = some (.ref C)) (kC : PySem.W.keepIn X.K (.ref C) = true) (hg : Gl X x)
    (hdb : (x == ("__debug__" : Str)) = false := by decide) :
    PE X (.Call (.Name x p) [] [] pos) (fun σ H Q => ∀ a, H a = none → Q (.ref a) (upd H a (ExO (.ref C) a))) := by
  refine ⟨fun pins s σ H Q I h => ?_⟩
  refine wpAny_Call_Name_kw (ld_glob I hg gC ?_ hdb)
  refine PySem.W.callWith_K0 I.kIn kC ?_
  show wpAny _ _ (call (.ref C) []) _ _ _
  obtain ⟨bm, N, nm, qn, bs, hdct, sn, sub, ab, col, dd, k0, k1, k2, k3, k5, mN, hC, hN, hni, T⟩ := exc_obj I.kIn q
  refine wpAny_call_exc_subT F T hC hN hni (fun h' a hm => ?_) (by decide)
  have hn : H a = none := I.hok.gone hm.new
  obtain ⟨t, ht, _, _⟩ := hm.there
  exact ⟨.ref a, upd H a (ExO (.ref C) a), I.laidN hm.keeps hm.new hn (exO_ok ht ⟨rfl, rfl⟩ rfl rfl rfl (show 4 < 6 by decide)), rfl, h a hn⟩
structure Ex0 (K : PySem.W.Frag) (C : Addr) : Prop where
  q : PySem.W.excIn K C veTail "ValueError.__new__" = true
  kC : PySem.W.keepIn K (.ref C) = true
def ex0B (K : PySem.W.Frag) (C : Addr) : Bool := PySem.W.excIn K C veTail "ValueError.__new__" && PySem.W.keepIn K (.ref C)
theorem ex0B_ok {K : PySem.W.Frag} {C : Addr} (h : ex0B K C = true) : Ex0 K C := ⟨(Bool.and_eq_true_iff.mp h).1, (Bool.and_eq_true_iff.mp h).2⟩
theorem se_mk0 (F0 : Ex0 X.K (cl c)) (hm : X.mg x = some (.ref (cl c))) (hg : Gl X x := by rfl) (hdb : (x == ("__debug__" : Str)) = false := by decide) :
    SE X cl W (.Call (.Name x p) [] [] pos) (eC (.exc c [] [])) := by
  refine ⟨_, pe_exc0 F.excBase_ValueError F0.q hm F0.kC hg hdb, fun σ Hv H S ad env Q re so q a ha => ?_⟩
  refine Pst.made so ha q (.exc0 upd_same fun h hh => ?_)
  obtain ⟨oe, vs, h1, h2, h3, _⟩ := hh
  exact ⟨oe, vs, h1, h2, h3⟩
end
end R


namespace R
open PySem L2

/-! ### {k: v, ..} -/
def evPairs : List (Ev A × Ev A) → Ev (List (A × A))
  | [], _, S => .ok [] S
  | (f, g) :: r, env, S => (f env S).bind fun a S1 => (g env S1).bind fun b S2 => (evPairs r env S2).bind fun l S3 => .ok ((a, b) :: l) S3
def keyOf : A → Option Key
  | .val (.int i) => some (.inl i)
  | .val (.str x) => some (.inr x)
  | _ => none
def keys? : List (A × A) → Option (List (Key × D))
  | [] => some []
  | (k, .val d) :: r => match keyOf k, keys? r with
    | some k, some l => some ((k, d) :: l)
    | _, _ => none
  | _ :: _ => none
def hDisp (n : Nat) (l : List (A × A)) (S : Store) : Out A := match keys? l, S[n]? with
  | some kds, some (some (.dic [] [])) => if (kds.map (·.1)).Nodup ∧ kds.length ≤ 15 then .ok (.loc n) (S.set n (some (.dic (kds.map fun p => keyD p.1) (kds.map (·.2))))) else .bad
  | _, _ => .bad
def eDisp (ps : List (Ev A × Ev A)) : Ev A := fun env S => (evPairs ps env (S ++ [some (.dic [] [])])).bind (hDisp S.length)

theorem mergeK_nodup : ∀ (kvs acc : List (Key × V)), ((acc ++ kvs).map (·.1)).Nodup → mergeK acc kvs = acc ++ kvs
  | [], acc, _ => by simp [mergeK]
  | p :: r, acc, h => by
    have h1 : (acc.any fun kv => decide (kv.1 = p.1)) = false := by
      rw [List.any_eq_false]
      intro x hx
      rw [List.map_append, List.nodup_append] at h
      have := h.2.2 x.1 (List.mem_map_of_mem hx) p.1 (by simp)
      simpa using this
    show mergeK (putK acc p.1 p.2) r = _
    unfold putK
    rw [h1, if_neg Bool.false_ne_true, mergeK_nodup r _ (by simpa using h)]
    simp
def RPs (K : PySem.W.Frag) (cl : CL) (Q : List (V × V) → Hp → Prop) : List (A × A) → Store → Hp → List Addr → Hp → Prop := fun l _ Hv' ad' H' => ∀ ps, Paired (fun (p : V × V) (a : A × A) => RepA K cl Hv' ad' p.1 a.1 ∧ RepA K cl Hv' ad' p.2 a.2) ps l → Q ps H'
def RdP (K : PySem.W.Frag) (cl : CL) (W : WX) (trs : List (TE × TE)) (f : Ev (List (A × A))) : Prop := ∀ (σ : St) (Hv H : Hp) (S : Store) (ad : List Addr) (env : Env) (Q : List (V × V) → Hp → Prop), RepEnv K cl Hv ad σ env → StOk K cl Hv H S ad → Pst K cl W σ Hv ad (RPs K cl Q) (f env S) → tPairs trs σ H Q
structure SP (X : Cx) (cl : CL) (W : WX) (pos : Pos) (keys : List (Option Expr)) (values : List Expr) (ps : List (Ev A × Ev A)) : Prop where
  ex : ∃ t, PPs X pos keys values t ∧ RdP X.K cl W t (evPairs ps)
theorem paired_mono {α β : Type} {R R' : α → β → Prop} (k : ∀ a b, R a b → R' a b) : ∀ {xs : List α} {ys : List β}, Paired R xs ys → Paired R' xs ys
  | _, _, .nil => .nil
  | _, _, .cons a b => .cons (k _ _ a) (paired_mono k b)
section
variable {X : Cx} {cl : CL} {W : WX} {pos : Pos} {keys : List (Option Expr)} {values : List Expr} {ps : List (Ev A × Ev A)}
theorem sp_nil : SP X cl W pos [] [] [] := ⟨_, pps_nil, fun σ Hv H S ad env Q re so h => h.here so [] .nil⟩
theorem sp_cons {k v : Expr} {f g : Ev A} (hk : SE X cl W k f) (hv : SE X cl W v g) (hr : SP X cl W pos keys values ps) : SP X cl W pos (some k :: keys) (v :: values) ((f, g) :: ps) := by
  obtain ⟨_, pk, rk⟩ := hk.ex
  obtain ⟨_, pv, rv⟩ := hv.ex
  obtain ⟨_, pr, rr⟩ := hr.ex
  refine ⟨_, pps_cons pk pv pr, fun σ Hv H S ad env Q re so q => ?_⟩
  exact rk σ Hv H S ad env _ re so (q.bind.mono fun a S1 Hv1 ad1 H1 e1 p1 s1 q1 v1 r1 =>
    rv σ Hv1 H1 S1 ad1 env _ (re.mono e1 p1) s1 (q1.bind.mono fun b S2 Hv2 ad2 H2 e2 p2 s2 q2 v2 r2 =>
      rr σ Hv2 H2 S2 ad2 env _ ((re.mono e1 p1).mono e2 p2) s2 (q2.bind.mono fun l S3 Hv3 ad3 H3 e3 p3 s3 q3 vs r3 =>
        q3.here s3 ((v1, v2) :: vs) (.cons ⟨(r1.mono e2 p2).mono e3 p3, r2.mono e3 p3⟩ r3))))
theorem keys_rep {K : PySem.W.Frag} {Hv : Hp} {ad : List Addr} : ∀ {ps : List (V × V)} {l : List (A × A)} {kds : List (Key × D)}, Paired (fun (p : V × V) (a : A × A) => RepA K cl Hv ad p.1 a.1 ∧ RepA K cl Hv ad p.2 a.2) ps l → keys? l = some kds →
    ∃ kvs : List (Key × V), ps = kvs.map (fun kv => (kV kv.1, kv.2)) ∧ kvs.map (·.1) = kds.map (·.1) ∧ Reps K cl Hv (kvs.map (·.2)) (kds.map (·.2))
  | _, _, kds, .nil, e => by
    cases e
    exact ⟨[], rfl, rfl, .nil⟩
  | _, _, kds, .cons (a := (v1, v2)) (b := (k, .loc n)) r t, e => by
    unfold keys? at e
    cases e
  | _, _, kds, .cons (a := (v1, v2)) (b := (k, .val d)) r t, e => by
    unfold keys? at e
    split at e
    · rename_i k' l' ek el
      cases e
      obtain ⟨kvs, h1, h2, h3⟩ := keys_rep t el
      have hk : v1 = kV k' := by
        have r1 := r.1
        dsimp only at r1
        unfold keyOf at ek
        split at ek
        · cases ek
          cases r1
          rfl
        · cases ek
          cases r1
          rfl
        · cases ek
      refine ⟨(k', v2) :: kvs, by rw [h1, hk]; rfl, by rw [List.map_cons, List.map_cons, h2], .cons r.2 h3⟩
    · cases e
theorem se_disp (h : SP X cl W pos keys values ps) (hall : keys.all (·.isSome) = true := by rfl) (hl : keys.length = values.length := by rfl) (h0 : keys ≠ [] := by exact List.cons_ne_nil _ _) (h15 : keys.length ≤ 15 := by decide) :
    SE X cl W (.Dict keys values pos) (eDisp ps) := by
  obtain ⟨trs, pp, rp⟩ := h.ex
  refine ⟨_, pe_disp pp hall hl h0 h15, fun σ Hv H S ad env Q re so q p hp => ?_⟩
  have so1 := so.alloc (c := .dic [] []) (o := .dK []) hp ⟨[], upd_same, rfl, .nil⟩
  have pre : Pre ad (ad ++ [p]) := ⟨[p], rfl⟩
  have hat : (ad ++ [p])[S.length]? = some p := by rw [← so.len]; simp
  have q0 : Pst X.K cl W σ Hv (ad ++ [p]) (RA X.K cl Q) (eDisp ps env S) := by
    cases e : eDisp ps env S with
    | ok a S' =>
      rw [e] at q
      exact fun Hv' ad' H' e1 p1 s1 => q Hv' ad' H' e1 (pre.trans p1) s1
    | exc c ns vs S' =>
      rw [e] at q
      exact fun Hv' ad' H' dd e1 p1 s1 => q Hv' ad' H' dd e1 (pre.trans p1) s1
    | bad =>
      rw [e] at q
      exact q
  refine rp σ Hv _ _ (ad ++ [p]) env _ (re.mono (Ex.refl _) pre) so1 (q0.bind.mono fun l S2 Hv2 ad2 H2 e2 p2 s2 q2 pl rl => ?_)
  unfold hDisp at q2
  split at q2
  · rename_i kds ek es
    split at q2
    · rename_i hc
      obtain ⟨kvs, h1, h2, h3⟩ := keys_rep rl ek
      obtain ⟨a, ha, hva, hat2⟩ := s2.at_ _ _ es
      rw [p2.get hat] at ha
      cases ha
      have hnd : (kvs.map (·.1)).Nodup := by rw [h2]; exact hc.1
      have hlen : kvs.length ≤ 15 := by
        have := congrArg List.length h2
        rw [List.length_map, List.length_map] at this
        omega
      have hd : H2 p = some (.dK []) := by
        obtain ⟨kv, z1, z2, z3⟩ := hat2
        cases kv with
        | nil => exact z1
        | cons x y => cases z2
      refine ⟨hd, kvs, h1, hlen, ?_⟩
      have em : mergeK [] kvs = kvs := mergeK_nodup kvs [] hnd
      rw [em]
      refine q2 Hv2 ad2 _ (Ex.refl _) (Pre.refl _) (s2.write es (p2.get hat) ⟨kvs, upd_same, ?_, h3⟩) (.ref p) ⟨p, rfl, p2.get hat⟩
      rw [show (kvs.map fun p => keyD p.1) = (kvs.map (·.1)).map keyD from by rw [List.map_map]; rfl, h2, List.map_map]
      rfl
    · exact q2.elim
  · exact q2.elim
end
end R


namespace R
open PySem L2
/-! ### a comprehension's list as a place of the store -/
def lcEndN (n : Nat) (S : Store) : Out A := match S[n]? with
  | some (some (.lst ds)) => .ok (.loc n) (S.take (n + 1))
  | _ => .bad
def eLcN (vs : List Nat) (src : Ev (List D)) (g : A → Ev Env) (tt : Ev Bool) (te : Ev A) : Ev A := fun env S => (src env S).bind fun ds S1 =>
  (lcD S1.length g tt te (wipeE env vs) ds (S1 ++ [some (.lst [])])).bind fun _ S2 => lcEndN S1.length S2
section
variable {X : Cx} {cl : CL} {W : WX} {elt tg iter : Expr} {ifs : List Expr} {scope : Scope} {own : List (Str × Nat)} {pos : Pos} {src : Ev (List D)} {g : A → Ev Env} {tt : Ev Bool} {te : Ev A}
theorem rd_lcN : RdE X.K cl W (tLc (cI X.K cl W src) (cGx X.K cl (own.map (·.2)) g) (cT X.K cl WF tt) (cE X.K cl WF te) (own.map (·.2))) (eLcN (own.map (·.2)) src g tt te) := fun σ Hv H S ad env Q re so q => by
  refine ⟨Hv, S, ad, env, re, so, q.bind.mono fun ds S1 Hv1 ad1 H1 e1 p1 s1 q1 J wk Dd hD => ?_⟩
  have re1 := re.mono e1 p1
  have q2 := Pst.bindK q1
  have hpre : Pre ad1 (ad1 ++ [Dd]) := ⟨[Dd], rfl⟩
  have hDn : (ad1 ++ [Dd])[S1.length]? = some Dd := by rw [← s1.len]; simp
  refine ⟨fun i m H' => m = ds.length - i ∧ i ≤ ds.length ∧ ∃ Hv' S' ad', Ex Hv1 Hv' ∧ Pre (ad1 ++ [Dd]) ad' ∧ StOk X.K cl Hv' H' S' ad' ∧ Pst X.K cl W σ Hv' ad' (fun _ S2 Hv' _ _ => Pst X.K cl W σ Hv' ad1 (RA X.K cl Q) (lcEndN S1.length S2)) (lcD S1.length g tt te (wipeE env (own.map (·.2))) (ds.drop i) S'),
    ⟨ds.length, by omega, Nat.zero_le _, Hv1, _, ad1 ++ [Dd], Ex.refl _, Pre.refl _, s1.alloc (c := .lst []) hD ⟨[], upd_same, .nil⟩, q2.up (Ex.refl _) hpre⟩, ?_⟩
  rintro i m H2 ⟨rfl, hi, Hv2, S2, ad2, e2, p2, s2, q3⟩
  have hD2 : ad2[S1.length]? = some Dd := p2.get hDn
  by_cases hlt : i < ds.length
  · obtain ⟨d, hd⟩ : ∃ d, ds[i]? = some d := ⟨ds[i], List.getElem?_eq_getElem hlt⟩
    obtain ⟨go, yl⟩ := (wk i Hv2 H2 e2 s2.ex).2 d hd
    have edrop : ds.drop i = d :: ds.drop (i + 1) := by
      rw [List.drop_eq_getElem_cons hlt]
      congr 1
      rw [List.getElem?_eq_getElem hlt] at hd
      exact Option.some.inj hd
    rw [edrop] at q3
    refine .inr ⟨go, fun H' => ∃ Hv' S' ad', Ex Hv1 Hv' ∧ Pre (ad1 ++ [Dd]) ad' ∧ StOk X.K cl Hv' H' S' ad' ∧ Pst X.K cl W σ Hv' ad' (fun _ S2 Hv' _ _ => Pst X.K cl W σ Hv' ad1 (RA X.K cl Q) (lcEndN S1.length S2)) (lcD S1.length g tt te (wipeE env (own.map (·.2))) (ds.drop (i + 1)) S'),
      fun H' z => ⟨ds.length - (i + 1), by omega, rfl, hlt, z⟩, fun x H' hy => ?_⟩
    obtain ⟨Hv3, e3, s3, r3⟩ := yl x H' hy S2 ad2 s2
    have pre02 : Pre ad1 ad2 := hpre.trans p2
    have rew : RepEnv X.K cl Hv3 ad2 (wipe σ (own.map (·.2))) (wipeE env (own.map (·.2))) := (wipe_rep _ re1).mono (e2.trans e3) pre02
    have q4 := Pst.noExc (Pst.up e3 (Pre.refl _) q3) (wipe σ (own.map (·.2)))
    refine ⟨Hv3, S2, ad2, _, .val d, rew, s3, r3, q4.mono fun env4 S4 Hv4 ad4 H4 e4 p4 s4 q5 σ4 re4 w4 => ⟨by
      rw [w4]
      have idem : ∀ (vs ws : List Nat) (τ : St), (∀ v ∈ vs, v ∈ ws) → wipe (wipe τ vs) ws = wipe τ ws := fun vs => by
        induction vs with
        | nil => intro ws τ _; rfl
        | cons v vs ih =>
          intro ws τ hv
          show wipe ((wipe τ vs).set v none) ws = _
          rw [wipe_set _ _ _ ws (hv v List.mem_cons_self)]
          exact ih ws τ fun u hu => hv u (List.mem_cons_of_mem _ hu)
      exact idem _ _ σ fun _ h => h, ?_⟩⟩
    refine ⟨Hv4, S4, ad4, env4, re4, s4, (Pst.noExc q5 σ4).mono fun b S5 Hv5 ad5 H5 e5 p5 s5 q6 => ?_⟩
    have e15 : Ex Hv1 Hv5 := e2.trans (e3.trans (e4.trans e5))
    have p15 : Pre (ad1 ++ [Dd]) ad5 := p2.trans (p4.trans p5)
    cases b with
    | false => exact ⟨Hv5, S5, ad5, e15, p15, s5, q6⟩
    | true =>
      show cE X.K cl WF te σ4 H5 _
      refine ⟨Hv5, S5, ad5, env4, re4.mono e5 p5, s5, (Pst.noExc q6 σ4).mono fun a S6 Hv6 ad6 H6 e6 p6 s6 q7 v6 r6 => ?_⟩
      split at q7
      · rename_i y acc eac
        by_cases hz : acc.length < 100000
        · rw [if_pos hz] at q7
          have p16 : Pre (ad1 ++ [Dd]) ad6 := p15.trans p6
          have hD6 : ad6[S1.length]? = some Dd := p16.get hDn
          obtain ⟨D', g1, g2, xs, g3, g4⟩ := s6.at_ _ _ eac
          rw [hD6] at g1
          cases g1
          refine ⟨xs, g3, Nat.lt_of_lt_of_le (by rw [g4.length]; exact hz) (by decide), Hv6, _, ad6, e15.trans e6, p16, s6.write eac hD6 (c' := .lst (acc ++ [y])) ⟨_, upd_same, g4.append (.cons r6 .nil)⟩, q7⟩
        · rw [if_neg hz] at q7
          exact q7.elim
      · exact q7.elim
  · refine .inl ⟨(wk i Hv2 H2 e2 s2.ex).1 (by omega), ?_⟩
    rw [List.drop_eq_nil_of_le (by omega)] at q3
    have q4 : Pst X.K cl W σ Hv2 ad1 (RA X.K cl Q) (lcEndN S1.length S2) := q3 Hv2 ad2 H2 (Ex.refl _) (Pre.refl _) s2
    unfold lcEndN at q4
    split at q4
    · rename_i acc eac
      obtain ⟨D', g1, g2, g3⟩ := s2.at_ _ _ eac
      rw [hD2] at g1
      cases g1
      have s5 := s2.take (S1.length + 1) (Nat.le_succ_of_le (s1.len ▸ s1.ka.len))
      have ead : ad2.take (S1.length + 1) = ad1 ++ [Dd] := p2.take (by rw [List.length_append, s1.len]; rfl)
      rw [ead] at s5
      exact q4 Hv2 _ H2 (Ex.refl _) hpre s5 (.ref Dd) ⟨Dd, rfl, hDn⟩
    · exact q4.elim
theorem se_lcN (hc : X.calm = true) (hN : X.N.Nodup) (hi : SI X cl W tg iter src) (ok : BlkOk X.N X.env.scope scope own)
    (hg : ∀ (s : Shared) (H : Hp) (C : Addr) (c : List (Str × Addr)) (fp : List Addr), PG (X.blk s H scope (compEnvC scope c C X.env) fp) tg (cGx X.K cl (own.map (·.2)) g))
    (ht : ∀ (s : Shared) (H : Hp) (C : Addr) (c : List (Str × Addr)) (fp : List Addr), PTs (X.blk s H scope (compEnvC scope c C X.env) fp) ifs (cT X.K cl WF tt))
    (he : ∀ (s : Shared) (H : Hp) (C : Addr) (c : List (Str × Addr)) (fp : List Addr), SE (X.blk s H scope (compEnvC scope c C X.env) fp) cl WF elt te) (hs : ∀ x, foldedSetIterable iter X.env x = pure x := by intro _; rfl) :
    SE X cl W (.ListComp elt [⟨tg, iter, ifs, 0⟩] scope pos) (eLcN (own.map (·.2)) src g tt te) :=
  ⟨_, pe_lc hc hN hi.can ok hg ht (fun s H C c fp => (he s H C c fp).can) hs, rd_lcN⟩
/-- name = [..] -/
theorem ss_setLcN (i : Nat) {y : Str} {py spos : Pos} (hc : X.calm = true) (hN : X.N.Nodup) (hsw : swapsWith (.ListComp elt [⟨tg, iter, ifs, 0⟩] scope pos) (some (.Name y py)) spos.line X.env = pure true) (hi : SI X cl W tg iter src) (ok : BlkOk X.N X.env.scope scope own)
    (hg : ∀ (s : Shared) (H : Hp) (C : Addr) (c : List (Str × Addr)) (fp : List Addr), PG (X.blk s H scope (compEnvC scope c C X.env) fp) tg (cGx X.K cl (own.map (·.2)) g))
    (ht : ∀ (s : Shared) (H : Hp) (C : Addr) (c : List (Str × Addr)) (fp : List Addr), PTs (X.blk s H scope (compEnvC scope c C X.env) fp) ifs (cT X.K cl WF tt))
    (he : ∀ (s : Shared) (H : Hp) (C : Addr) (c : List (Str × Addr)) (fp : List Addr), SE (X.blk s H scope (compEnvC scope c C X.env) fp) cl WF elt te) (hs : ∀ x, foldedSetIterable iter X.env x = pure x := by intro _; rfl)
    (hy : X.N[i]? = some y := by rfl) (hyl : X.env.scope.names.lookup y = some .local := by rfl) :
    SS X cl W (.Assign [.Name y py] (.ListComp elt [⟨tg, iter, ifs, 0⟩] scope pos) spos) (sSet i (eLcN (own.map (·.2)) src g tt te)) :=
  ⟨_, ps_setLc hc hN hy hyl hsw hi.can ok hg ht (fun s H C c fp => (he s H C c fp).can) hs, fun σ Hv H S ad env Dn re so q =>
    rd_lcN (X := X) σ Hv H S ad env _ re so ((q.bind re).mono fun a S1 Hv1 ad1 H1 e1 p1 s1 q1 v1 r1 => q1 _ Hv1 ad1 H1 (Ex.refl _) (Pre.refl _) s1 ((re.mono e1 p1).set i r1))⟩
end
theorem room65 {k : Nat} {A : Around} (r : Room k A) : A.units + 65 < cLine := by have := r.un; omega
end R


namespace R
open PySem L2
/-! ### the evaluators as a machine for simp: nothing is opened before its arguments are there -/
section
variable {α β : Type} {env : Env} {S : Store} {f g k : Ev A} {fs gs : Ev (List A)} {a b : A} {as : List A} {d : D} {h h2 : A → A → Store → Out A} {hu : A → Store → Out A} {hl : List A → Store → Out A} {c c2 : Ev Bool} {s s2 : Sv}
theorem z_bind_ok {x : α} {K : α → Store → Out β} : (Out.ok x S).bind K = K x S := rfl
theorem z_bind_exc {n : Nat} {ns : List Str} {vs : List D} {K : α → Store → Out β} : (Out.exc n ns vs S : Out α).bind K = .exc n ns vs S := rfl
theorem z_bindS_ok {x : α} {K : α → Store → OutS} : (Out.ok x S).bindS env K = K x S := rfl
theorem z_bindS_exc {n : Nat} {ns : List Str} {vs : List D} {K : α → Store → OutS} : (Out.exc n ns vs S : Out α).bindS env K = .exc n ns vs env S := rfl
theorem z_C : eC d env S = .ok (.val d) S := rfl
def kVar (S : Store) (o : Option (Option A)) : Out A := match o with
  | some (some a) => .ok a S
  | _ => .bad
theorem z_var {i : Nat} : eVar i env S = kVar S env[i]? := rfl
theorem z_kVar : kVar S (some (some a)) = .ok a S := rfl
def kOp (h : A → A → Store → Out A) (g : Ev A) (env : Env) (a : A) (S : Store) : Out A := (g env S).bind (h a)
theorem z_op : eOp h f g env S = (f env S).bind (kOp h g env) := rfl
theorem z_kOp : kOp h g env a S = (g env S).bind (h a) := rfl
theorem z_un : eUn hu f env S = (f env S).bind hu := rfl
theorem z_nil : eNil env S = .ok [] S := rfl
def kCons (g : Ev (List A)) (env : Env) (a : A) (S : Store) : Out (List A) := (g env S).bind fun as S2 => .ok (a :: as) S2
def kCons2 (a : A) (as : List A) (S : Store) : Out (List A) := .ok (a :: as) S
theorem z_cons : eCons f gs env S = (f env S).bind (kCons gs env) := rfl
theorem z_kCons : kCons gs env a S = (gs env S).bind (kCons2 a) := rfl
theorem z_kCons2 : kCons2 a as S = .ok (a :: as) S := rfl
theorem z_app : eApp hl fs env S = (fs env S).bind hl := rfl
def kBool (a : A) (S : Store) : Out Bool := match a with
  | .val (.bl b) => .ok b S
  | _ => .bad
theorem z_bool : tBool f env S = (f env S).bind kBool := rfl
theorem z_kBool {x : Bool} : kBool (.val (.bl x)) S = .ok x S := rfl
def kAnd (g : Ev Bool) (env : Env) (b : Bool) (S : Store) : Out Bool := match b with
  | true => g env S
  | false => .ok false S
theorem z_and : tAndE c c2 env S = (c env S).bind (kAnd c2 env) := rfl
theorem z_kAnd_t : kAnd c env true S = c env S := rfl
theorem z_kAnd_f : kAnd c env false S = .ok false S := rfl
def kOr (g : Ev Bool) (env : Env) (b : Bool) (S : Store) : Out Bool := match b with
  | true => .ok true S
  | false => g env S
theorem z_or : tOrE c c2 env S = (c env S).bind (kOr c2 env) := rfl
theorem z_kOr_t : kOr c env true S = .ok true S := rfl
theorem z_kOr_f : kOr c env false S = c env S := rfl
def kNot (b : Bool) (S : Store) : Out Bool := .ok (!b) S
theorem z_not : tNotE c env S = (c env S).bind kNot := rfl
theorem z_kNot {x : Bool} : kNot x S = .ok (!x) S := rfl
def kAndE (g : Ev A) (env : Env) (a : A) (S : Store) : Out A := match a with
  | .val (.bl true) => g env S
  | .val (.bl false) => .ok (.val (.bl false)) S
  | _ => .bad
theorem z_andE : eAndE f g env S = (f env S).bind (kAndE g env) := rfl
theorem z_kAndE_t : kAndE g env (.val (.bl true)) S = g env S := rfl
theorem z_kAndE_f : kAndE g env (.val (.bl false)) S = .ok (.val (.bl false)) S := rfl
def kOrE (g : Ev A) (env : Env) (a : A) (S : Store) : Out A := match a with
  | .val (.bl true) => .ok (.val (.bl true)) S
  | .val (.bl false) => g env S
  | _ => .bad
theorem z_orE : eOrE f g env S = (f env S).bind (kOrE g env) := rfl
theorem z_kOrE_t : kOrE g env (.val (.bl true)) S = .ok (.val (.bl true)) S := rfl
theorem z_kOrE_f : kOrE g env (.val (.bl false)) S = g env S := rfl
def kIfE (f g : Ev A) (env : Env) (b : Bool) (S : Store) : Out A := match b with
  | true => f env S
  | false => g env S
theorem z_ifE : eIfE c f g env S = (c env S).bind (kIfE f g env) := rfl
theorem z_kIfE_t : kIfE f g env true S = f env S := rfl
theorem z_kIfE_f : kIfE f g env false S = g env S := rfl
theorem z_frz : eFrz f env S = (f env S).bind hFrz := rfl
theorem z_frz_v : hFrz (.val d) S = .ok (.val d) S := rfl
/-! statements -/
theorem z_seq : sSeq s s2 env S = (s env S).seq s2 := rfl
theorem z_seq_nx {e : Env} : (OutS.ok (.nx e) S).seq s = s e S := rfl
theorem z_seq_rt : (OutS.ok (.rt a) S).seq s = .ok (.rt a) S := rfl
theorem z_seq_bk {e : Env} : (OutS.ok (.bk e) S).seq s = .ok (.bk e) S := rfl
theorem z_seq_ct {e : Env} : (OutS.ok (.ct e) S).seq s = .ok (.ct e) S := rfl
def kDrop (env : Env) (_ : A) (S : Store) : OutS := .ok (.nx env) S
theorem z_drop : sDrop f env S = (f env S).bindS env (kDrop env) := rfl
theorem z_kDrop : kDrop env a S = .ok (.nx env) S := rfl
def kRet (a : A) (S : Store) : OutS := .ok (.rt a) S
theorem z_ret : sRet f env S = (f env S).bindS env kRet := rfl
theorem z_kRet : kRet a S = .ok (.rt a) S := rfl
theorem z_retN : sRetN env S = .ok (.rt (.val .non)) S := rfl
def kSet (i : Nat) (env : Env) (a : A) (S : Store) : OutS := .ok (.nx (env.set i (some a))) S
theorem z_set {i : Nat} : sSet i f env S = (f env S).bindS env (kSet i env) := rfl
theorem z_kSet {i : Nat} : kSet i env a S = .ok (.nx (env.set i (some a))) S := rfl
def kIf (s s2 : Sv) (env : Env) (b : Bool) (S : Store) : OutS := match b with
  | true => s env S
  | false => s2 env S
theorem z_if : sIf c s s2 env S = (c env S).bindS env (kIf s s2 env) := rfl
theorem z_kIf_t : kIf s s2 env true S = s env S := rfl
theorem z_kIf_f : kIf s s2 env false S = s2 env S := rfl
def kPar (i j : Nat) (env : Env) (as : List A) (S : Store) : OutS := match as with
  | [a, b] => .ok (.nx ((env.set i (some a)).set j (some b))) S
  | _ => .bad
theorem z_par {i j : Nat} : sPar i j fs env S = (fs env S).bindS env (kPar i j env) := rfl
theorem z_kPar {i j : Nat} : kPar i j env [a, b] S = .ok (.nx ((env.set i (some a)).set j (some b))) S := rfl
def kAsg2 (e : Env) (S : Store) : OutS := .ok (.nx e) S
def kAsg (t : A → Ev Env) (env : Env) (a : A) (S : Store) : OutS := (t a env S).bindS env kAsg2
theorem z_asg {t : A → Ev Env} : sAsg f t env S = (f env S).bindS env (kAsg t env) := rfl
theorem z_kAsg {t : A → Ev Env} : kAsg t env a S = (t a env S).bindS env kAsg2 := rfl
theorem z_kAsg2 : kAsg2 env S = .ok (.nx env) S := rfl
theorem z_next : sNext env S = .ok (.nx env) S := rfl
theorem z_break : sBreak env S = .ok (.bk env) S := rfl
theorem z_cont : sCont env S = .ok (.ct env) S := rfl
theorem z_gSet {i : Nat} : gSet i a env S = .ok (env.set i (some a)) S := rfl
/-! defs -/
theorem z_def {n : Nat} : defF n s as S = kDef S (s (startE n as) S) := rfl
theorem z_kDef_v {S' : Store} : kDef S (.ok (.rt (.val d)) S') = .ok (.val d) (S'.take S.length) := rfl
theorem z_kDef_n {S' : Store} : kDef S (.ok (.nx env) S') = .ok (.val .non) (S'.take S.length) := rfl
theorem z_call {n : Nat} {G : List A → Store → Out A} (hn : as.length = n) : callG n G [] as S = G as S := by
  unfold callG
  rw [List.append_nil, if_pos hn]
/-! loops -/
theorem z_for {src : Ev (List D)} {t : A → Ev Env} : sFor src t s env S = (src env S).bindS env fun ds S1 => forD t s ds env S1 := rfl
theorem z_for_nil {t : A → Ev Env} : forD t s [] env S = .ok (.nx env) S := rfl
def kFor2 (t : A → Ev Env) (s : Sv) (r : List D) (o : OutS) : OutS := match o with
  | .ok (.nx env2) S2 => forD t s r env2 S2
  | .ok (.ct env2) S2 => forD t s r env2 S2
  | .ok (.bk env2) S2 => .ok (.nx env2) S2
  | .ok (.rt a) S2 => .ok (.rt a) S2
  | .exc c ns vs env2 S2 => .exc c ns vs env2 S2
  | .bad => .bad
def kFor (t : A → Ev Env) (s : Sv) (r : List D) (env : Env) (S : Store) : OutS := kFor2 t s r (s env S)
theorem z_for_cons {t : A → Ev Env} {r : List D} : forD t s (d :: r) env S = (t (.val d) env S).bindS env (kFor t s r) := rfl
theorem z_kFor {t : A → Ev Env} {r : List D} : kFor t s r env S = kFor2 t s r (s env S) := rfl
theorem z_kFor_nx {t : A → Ev Env} {r : List D} : kFor2 t s r (.ok (.nx env) S) = forD t s r env S := rfl
theorem z_kFor_ct {t : A → Ev Env} {r : List D} : kFor2 t s r (.ok (.ct env) S) = forD t s r env S := rfl
theorem z_kFor_bk {t : A → Ev Env} {r : List D} : kFor2 t s r (.ok (.bk env) S) = .ok (.nx env) S := rfl
theorem z_kFor_rt {t : A → Ev Env} {r : List D} : kFor2 t s r (.ok (.rt a) S) = .ok (.rt a) S := rfl
def kForI (t : A → Ev Env) (s : Sv) (env : Env) (ds : List D) (S : Store) : OutS := forD t s ds env S
theorem z_forI {src : Ev (List D)} {t : A → Ev Env} : sFor src t s env S = (src env S).bindS env (kForI t s env) := rfl
theorem z_kForI {t : A → Ev Env} {ds : List D} : kForI t s env ds S = forD t s ds env S := rfl
theorem for_step {t : A → Ev Env} {r : List D} {env1 env2 : Env} {S1 S2 : Store} (h1 : t (.val d) env S = .ok env1 S1) (h2 : s env1 S1 = .ok (.nx env2) S2) : forD t s (d :: r) env S = forD t s r env2 S2 := by
  rw [z_for_cons, h1, z_bindS_ok, z_kFor, h2, z_kFor_nx]
/-- a loop that goes on to its end; I k: what holds behind k turns -/
theorem for_inv {t : A → Ev Env} {I : Nat → Env → Store → Prop} : ∀ {ds : List D} {k : Nat} {env : Env} {S : Store},
    (∀ (j : Nat) (d : D) (env : Env) (S : Store), ds[j]? = some d → I (k + j) env S → ∃ env1 S1 env2 S2, t (.val d) env S = .ok env1 S1 ∧ s env1 S1 = .ok (.nx env2) S2 ∧ I (k + j + 1) env2 S2) → I k env S →
    ∃ env' S', I (k + ds.length) env' S' ∧ forD t s ds env S = .ok (.nx env') S'
  | [], k, env, S, _, h => ⟨env, S, h, rfl⟩
  | d :: r, k, env, S, step, h => by
    obtain ⟨env1, S1, env2, S2, h1, h2, h3⟩ := step 0 d env S rfl h
    obtain ⟨env', S', h4, h5⟩ := for_inv (ds := r) (k := k + 1) (fun j d' env S hj hI => by
      have := step (j + 1) d' env S (by simpa using hj) (by rw [show k + (j + 1) = k + 1 + j from by omega]; exact hI)
      rw [show k + (j + 1) + 1 = k + 1 + j + 1 from by omega] at this
      exact this) h3
    refine ⟨env', S', ?_, by rw [for_step h1 h2]; exact h5⟩
    rw [List.length_cons, show k + (r.length + 1) = k + 1 + r.length from by omega]
    exact h4
theorem append_ok {fo fe : Ev A} {n : Nat} {ds : List D} (h1 : fo env S = .ok (.loc n) S) (h2 : fe env S = .ok (.val d) S) (h3 : S[n]? = some (some (.lst ds))) (h4 : ds.length < 100000) : eAppend fo fe env S = .ok (.val .non) (S.set n (some (.lst (ds ++ [d])))) := by
  unfold eAppend
  rw [h1, z_bind_ok]
  have e : lst? S (.loc n) = some ds := by
    unfold lst?
    simp only [h3]
  simp only [e, h2, z_bind_ok, h3, if_pos h4]
end
end R


namespace R
open PySem L2

/-! ### the pen: plain facts of the draw that every law has -/
structure DrawC where
  k1 : Int
  k2 : Int
  m1 : Int
  a1 : Int
  b1 : Int
  m2 : Int
  t1 : Int
  a2 : Int
  b2 : Int
  m3 : Int
def DrawC.ok (c : DrawC) : Bool := (decide (0 ≤ c.k1) && decide (c.k1 < 2 ^ 21)) && ((decide (0 ≤ c.k2) && decide (c.k2 < 2 ^ 21)) && ((decide (0 < c.m1) && decide (c.m1 ≤ 2 ^ 31)) && ((decide (0 ≤ c.a1) && decide (c.a1 < 2 ^ 21)) && ((decide (0 ≤ c.b1) && decide (c.b1 < 2 ^ 21)) && ((decide (0 < c.m2) && decide (c.m2 ≤ 2 ^ 31)) &&
  ((decide (0 ≤ c.t1) && decide (c.t1 < 2 ^ 21)) && ((decide (0 ≤ c.a2) && decide (c.a2 < 2 ^ 21)) && ((decide (0 ≤ c.b2) && decide (c.b2 < 2 ^ 21)) && (decide (0 < c.m3) && decide (c.m3 ≤ 2 ^ 31))))))))))
def drawT (c : DrawC) : Sv := sSeq (sSet 6 (eOp hMod (eApp hIntC (eCons (eOp hPow (eOp hAdd (eOp hAdd (eOp hMod (eApp hIntC (eCons (eVar 4) (eNil))) (eC (.int c.m1))) (eOp hMulA (eC (.int c.a1)) (eVar 3))) (eC (.int c.b1))) (eC (.int 5))) (eNil))) (eC (.int c.m2))))
    (sSeq (sSet 6 (eOp hMod (eApp hIntC (eCons (eOp hPow (eOp hAdd (eOp hAdd (eOp hMulA (eVar 6) (eOp hAdd (eOp hMulA (eC (.int 2)) (eVar 3)) (eC (.int c.t1)))) (eOp hMulA (eOp hMulA (eC (.int c.a2)) (eVar 3)) (eVar 3))) (eC (.int c.b2))) (eC (.int 3))) (eNil))) (eC (.int c.m3))))
    (sRet (eOp hMod (eApp hIntC (eCons (eOp hDiv (eVar 6) (eC (.int 32))) (eNil))) (eVar 1))))
def drawE (c : DrawC) : Sv := sSeq (sIf (tBool (eOp hGt (eOp hIx (eVar 0) (eC (.int 2))) (eC (.int 0)))) (sSeq (sSet 2 (eOp hMod (eApp hIntC (eCons (eOp hIx (eVar 0) (eC (.int 2))) (eNil))) (eVar 1)))
    (sSeq (sAsg (eOp hDiv (eApp hIntC (eCons (eOp hIx (eVar 0) (eC (.int 2))) (eNil))) (eVar 1)) (gItem (eVar 0) (eC (.int 2))))
    (sRet (eVar 2))))
    (sNext))
    (sSeq (sSet 3 (eOp hIx (eVar 0) (eC (.int 1))))
    (sSeq (sAsg (eOp hAdd (eVar 3) (eC (.int 1))) (gItem (eVar 0) (eC (.int 1))))
    (sSeq (sSet 4 (eOp hAdd (eOp hMulA (eC (.int c.k1)) (eVar 3)) (eC (.int c.k2))))
    (sSeq (sIf (tBool (eOp hNe (eOp hIx (eVar 0) (eC (.int 0))) (eApp hLst (eNil)))) (sSet 4 (eOp hIx (eOp hIx (eVar 0) (eC (.int 0))) (eOp hMod (eApp hIntC (eCons (eVar 3) (eNil))) (eApp hLen (eCons (eOp hIx (eVar 0) (eC (.int 0))) (eNil))))))
    (sNext))
    (sSeq (sIf (tAndE (tBool (eOp hLt (eVar 3) (eApp hLen (eCons (eOp hIx (eVar 0) (eC (.int 0))) (eNil))))) (tBool (eOp hGe (eApp hAbs (eCons (eVar 4) (eNil))) (eOp hPow (eC (.int 10)) (eC (.int 18)))))) (sSeq (sSet 5 (eOp hAdd (eOp hMulA (eC (.int 2)) (eOp hSub (eApp hAbs (eCons (eVar 4) (eNil))) (eOp hPow (eC (.int 10)) (eC (.int 18))))) (eApp hIntC (eCons (eOp hLt (eVar 4) (eC (.int 0))) (eNil)))))
    (sSeq (sAsg (eOp hDiv (eApp hIntC (eCons (eVar 5) (eNil))) (eVar 1)) (gItem (eVar 0) (eC (.int 2))))
    (sRet (eOp hMod (eApp hIntC (eCons (eVar 5) (eNil))) (eVar 1)))))
    (sNext))
    (drawT c))))))

/-- the pen as it stands -/
def penC (cs : List Int) (t r : Int) : Con := .lst [.lst (cs.map D.int), .int t, .int r]

/-! operations on plain values -/
section
variable {S : Store} {i j : Int}
theorem hGt_i : hGt (.val (.int i)) (.val (.int j)) S = .ok (.val (.bl (decide (j < i)))) S := rfl
theorem hLt_i : hLt (.val (.int i)) (.val (.int j)) S = .ok (.val (.bl (decide (i < j)))) S := rfl
theorem hGe_i : hGe (.val (.int i)) (.val (.int j)) S = .ok (.val (.bl (decide (j ≤ i)))) S := rfl
theorem hLe_i : hLe (.val (.int i)) (.val (.int j)) S = .ok (.val (.bl (decide (i ≤ j)))) S := rfl
theorem hAdd_i : hAdd (.val (.int i)) (.val (.int j)) S = .ok (.val (.int (i + j))) S := rfl
theorem hSub_i : hSub (.val (.int i)) (.val (.int j)) S = .ok (.val (.int (i - j))) S := rfl
theorem hMod_i (h : 0 < j) : hMod (.val (.int i)) (.val (.int j)) S = .ok (.val (.int (i % j))) S := by
  show (if decide (0 < j) = true then _ else _) = _
  rw [if_pos (decide_eq_true h)]
theorem hDiv_i (h : 0 < j) (h2 : j < 2 ^ 64) : hDiv (.val (.int i)) (.val (.int j)) S = .ok (.val (.int (i / j))) S := by
  show (if divOk i j = true then _ else _) = _
  rw [if_pos]
  unfold divOk
  rw [decide_eq_true h, Bool.true_and]
  refine decide_eq_true ?_
  have : j.natAbs < 2 ^ 64 := by omega
  have := PySem.Flt.log2_lt_of (by decide : 0 < 64) this
  omega
theorem hMul_l (h : i.natAbs < 2 ^ 64) : hMulA (.val (.int i)) (.val (.int j)) S = .ok (.val (.int (i * j))) S := by
  show (if mulOk i j = true then _ else _) = _
  rw [if_pos]
  unfold mulOk
  rw [decide_eq_true h]
  rfl
theorem hMul_r (h : j.natAbs < 2 ^ 64) : hMulA (.val (.int i)) (.val (.int j)) S = .ok (.val (.int (i * j))) S := by
  show (if mulOk i j = true then _ else _) = _
  rw [if_pos]
  unfold mulOk
  rw [decide_eq_true h]
  simp
theorem hPow_i (h0 : 0 ≤ j) (h1 : j ≤ 1000000) (h : i.natAbs < 2 ^ 64) : hPow (.val (.int i)) (.val (.int j)) S = .ok (.val (.int (i ^ j.toNat))) S := by
  show (if powOk i j = true then _ else _) = _
  rw [if_pos]
  unfold powOk
  rw [decide_eq_true h0, decide_eq_true h1, decide_eq_true h]
  rfl
theorem hIntC_i : hIntC [.val (.int i)] S = .ok (.val (.int i)) S := rfl
theorem hIntC_b {b : Bool} : hIntC [.val (.bl b)] S = .ok (.val (.int (if b then 1 else 0))) S := rfl
theorem hAbs_i : hAbs [.val (.int i)] S = .ok (.val (.int (if i < 0 then -i else i))) S := rfl
theorem hLen_l {ds : List D} : hLen [.val (.lst ds)] S = .ok (.val (.int ds.length)) S := rfl
end
theorem toPys_ints : ∀ cs : List Int, toPys (cs.map D.int) = some (cs.map PyData.int)
  | [] => by simp only [List.map_nil, toPys]
  | c :: cs => by simp only [List.map_cons, toPys, toPy, toPys_ints cs]
theorem canLay_ints : ∀ cs : List Int, PyData.canLayAll0 (cs.map PyData.int) = true
  | [] => by simp only [List.map_nil, PyData.canLayAll0]
  | c :: cs => by simp only [List.map_cons, PyData.canLayAll0, PyData.canLay0, canLay_ints cs, Bool.and_self]
theorem depth_ints : ∀ cs : List Int, PyData.depthAll (cs.map PyData.int) ≤ 1
  | [] => by simp [PyData.depthAll]
  | c :: cs => by
    have h := depth_ints cs
    simp only [List.map_cons, PyData.depthAll, PyData.depth]
    omega
theorem shaped_ints (cs : List Int) : SeqAt.shaped (.list (cs.map PyData.int)) = true := by
  have h := depth_ints cs
  unfold SeqAt.shaped
  rw [Bool.and_eq_true]
  refine ⟨by simp only [PyData.canLay0]; exact canLay_ints cs, decide_eq_true ?_⟩
  simp only [PyData.depth]
  omega
theorem hNe_nil {S : Store} (cs : List Int) : hNe (.val (.lst (cs.map D.int))) (.val (.lst [])) S = .ok (.val (.bl (!cs.isEmpty))) S := by
  have e : eqPy S (.val (.lst (cs.map D.int))) (.val (.lst [])) = some cs.isEmpty := by
    unfold eqPy pyA lst?
    simp only [toPys_ints, toPys, Option.map_some]
    rw [if_pos ⟨shaped_ints cs, shaped_ints []⟩]
    cases cs <;> simp [PyData.eqv, PyData.eqvAll]
  unfold hNe eqA eqS
  simp only [e]

theorem set_pen {S : Store} {p : Nat} {x y : Option Con} (h : S[p]? = some x) : (S.set p y)[p]? = some y := List.getElem?_set_self (List.getElem?_eq_some_iff.mp h).1
section
variable {S : Store} {p : Nat} {cs : List Int} {t r : Int}
theorem ix_pen0 (h : S[p]? = some (some (penC cs t r))) : hIx (.loc p) (.val (.int 0)) S = .ok (.val (.lst (cs.map D.int))) S := by
  unfold hIx lst?
  simp only [h, penC]
  rfl
theorem ix_pen1 (h : S[p]? = some (some (penC cs t r))) : hIx (.loc p) (.val (.int 1)) S = .ok (.val (.int t)) S := by
  unfold hIx lst?
  simp only [h, penC]
  rfl
theorem ix_pen2 (h : S[p]? = some (some (penC cs t r))) : hIx (.loc p) (.val (.int 2)) S = .ok (.val (.int r)) S := by
  unfold hIx lst?
  simp only [h, penC]
  rfl
theorem ix_cell (hne : cs ≠ []) (i : Int) (h0 : 0 ≤ i) (h1 : i < (cs.length : Nat)) : ∃ x, hIx (.val (.lst (cs.map D.int))) (.val (.int i)) S = .ok (.val (.int x)) S := by
  have hl : i.toNat < cs.length := by omega
  refine ⟨cs[i.toNat], ?_⟩
  have e : L2.atI (cs.map D.int) i = some (.int cs[i.toNat]) := by
    unfold L2.atI ixN
    rw [List.length_map, if_pos h0, if_pos h1]
    simp [hl]
  unfold hIx lst?
  simp only [e]
theorem put1 {env : Env} (h : S[p]? = some (some (penC cs t r))) (he : env[0]? = some (some (.loc p))) (u : Int) : gItem (eVar 0) (eC (.int 1)) (.val (.int u)) env S = .ok env (S.set p (some (penC cs u r))) := by
  unfold gItem eVar eC
  simp only [he, Out.bind, h, penC]
  rfl
theorem put2 {env : Env} (h : S[p]? = some (some (penC cs t r))) (he : env[0]? = some (some (.loc p))) (u : Int) : gItem (eVar 0) (eC (.int 2)) (.val (.int u)) env S = .ok env (S.set p (some (penC cs t u))) := by
  unfold gItem eVar eC
  simp only [he, Out.bind, h, penC]
  rfl
theorem take_set {x : Option Con} : (S.set p x).take S.length = S.set p x := by
  rw [List.take_of_length_le]
  simp
end
theorem draw_wrap {X : Out A} {S : Store} {p : Nat} {cs : List Int} {t m t' r' : Int} (h1 : t' = t ∨ t' = t + 1) (h2 : 0 ≤ r') (hm0 : 0 < m) (h : ∃ u, X = .ok (.val (.int (u % m))) (S.set p (some (penC cs t' r')))) :
    ∃ t' r' v, (t' = t ∨ t' = t + 1) ∧ 0 ≤ r' ∧ 0 ≤ v ∧ v < m ∧ X = .ok (.val (.int v)) (S.set p (some (penC cs t' r'))) :=
  let ⟨_, h⟩ := h
  ⟨t', r', _, h1, h2, Int.emod_nonneg _ (by omega), Int.emod_lt_of_pos _ hm0, h⟩
theorem draw_ok {c : DrawC} (hc : c.ok = true) {S : Store} {p : Nat} {cs : List Int} {t r m : Int} (hS : S[p]? = some (some (penC cs t r))) (ht0 : 0 ≤ t) (ht : t ≤ 1000000) (hr : 0 ≤ r) (hm0 : 0 < m) (hm : m < 2 ^ 64) :
    ∃ t' r' v, (t' = t ∨ t' = t + 1) ∧ 0 ≤ r' ∧ 0 ≤ v ∧ v < m ∧ defF 7 (drawE c) [.loc p, .val (.int m)] S = .ok (.val (.int v)) (S.set p (some (penC cs t' r'))) := by
  unfold DrawC.ok at hc
  simp only [Bool.and_eq_true, decide_eq_true_eq] at hc
  obtain ⟨⟨k10, k11⟩, ⟨k20, k21⟩, ⟨m10, m11⟩, ⟨a10, a11⟩, ⟨b10, b11⟩, ⟨m20, m21⟩, ⟨t10, t11⟩, ⟨a20, a21⟩, ⟨b20, b21⟩, m30, m31⟩ := hc
  have est : startE 7 [.loc p, .val (.int m)] = [some (.loc p), some (.val (.int m)), none, none, none, none, none] := rfl
  rw [z_def, est]
  unfold drawE
  by_cases hr0 : 0 < r
  · refine ⟨t, r / m, r % m, .inl rfl, Int.ediv_nonneg hr (Int.le_of_lt hm0), Int.emod_nonneg _ (by omega), Int.emod_lt_of_pos _ hm0, ?_⟩
    simp only [z_bind_ok, z_bindS_ok, z_C, z_var, z_kVar, z_op, z_kOp, z_un, z_nil, z_cons, z_kCons, z_kCons2, z_app, z_bool, z_kBool, z_and, z_kAnd_t, z_kAnd_f, z_or, z_kOr_t, z_kOr_f, z_not, z_kNot, z_andE, z_kAndE_t, z_kAndE_f, z_orE, z_kOrE_t, z_kOrE_f, z_ifE, z_kIfE_t, z_kIfE_f, z_frz, z_frz_v, z_seq, z_seq_nx, z_seq_rt, z_seq_bk, z_seq_ct, z_drop, z_kDrop, z_ret, z_kRet, z_retN, z_set, z_kSet, z_if, z_kIf_t, z_kIf_f, z_par, z_kPar, z_asg, z_kAsg, z_kAsg2, z_next, z_break, z_cont, z_gSet, z_for_nil, z_for_cons, z_kFor, z_kFor_nx, z_kFor_ct, z_kFor_bk, z_kFor_rt, z_forI, z_kForI, List.getElem?_cons_zero, List.getElem?_cons_succ, List.set_cons_zero, List.set_cons_succ, ix_pen2 hS, hGt_i, decide_eq_true hr0, hIntC_i, hMod_i hm0, hDiv_i hm0 hm, put2 hS (env := [some (A.loc p), some (A.val (D.int m)), some (A.val (D.int (r % m))), none, none, none, none]) rfl]
    rw [z_kDef_v, take_set]
  · have hS1 := set_pen (y := some (penC cs (t + 1) r)) hS
    have hS2 : ∀ u, (S.set p (some (penC cs (t + 1) r))).set p (some (penC cs (t + 1) u)) = S.set p (some (penC cs (t + 1) u)) := fun u => by rw [List.set_set]
    have k1 : c.k1.natAbs < 2 ^ 64 := by omega
    have a1 : c.a1.natAbs < 2 ^ 64 := by omega
    have a2 : c.a2.natAbs < 2 ^ 64 := by omega
    have tn : t.natAbs < 2 ^ 64 := by omega
    have m1x : ∀ x : Int, 0 ≤ x % c.m1 ∧ x % c.m1 < c.m1 := fun x => ⟨Int.emod_nonneg _ (by omega), Int.emod_lt_of_pos _ m10⟩
    have m2x : ∀ x : Int, 0 ≤ x % c.m2 ∧ x % c.m2 < c.m2 := fun x => ⟨Int.emod_nonneg _ (by omega), Int.emod_lt_of_pos _ m20⟩
    have m3x : ∀ x : Int, 0 ≤ x % c.m3 ∧ x % c.m3 < c.m3 := fun x => ⟨Int.emod_nonneg _ (by omega), Int.emod_lt_of_pos _ m30⟩
    have at1 : 0 ≤ c.a1 * t ∧ c.a1 * t ≤ 2 ^ 21 * 1000000 := ⟨Int.mul_nonneg a10 ht0, Int.mul_le_mul (by omega) ht ht0 (by decide)⟩
    have at2 : 0 ≤ c.a2 * t ∧ c.a2 * t ≤ 2 ^ 21 * 1000000 := ⟨Int.mul_nonneg a20 ht0, Int.mul_le_mul (by omega) ht ht0 (by decide)⟩
    have at3 : 0 ≤ c.a2 * t * t ∧ c.a2 * t * t ≤ 2 ^ 21 * 1000000 * 1000000 := ⟨Int.mul_nonneg at2.1 ht0, Int.mul_le_mul at2.2 ht ht0 (by decide)⟩
    have p1 : ∀ x : Int, (x % c.m1 + c.a1 * t + c.b1).natAbs < 2 ^ 64 := fun x => by have := m1x x; omega
    have q1 : ∀ x : Int, 0 ≤ (x % c.m2) * (2 * t + c.t1) ∧ (x % c.m2) * (2 * t + c.t1) ≤ 2 ^ 31 * (2000000 + 2 ^ 21) := fun x => by
      have := m2x x
      exact ⟨Int.mul_nonneg this.1 (by omega), Int.mul_le_mul (by omega) (by omega) (by omega) (by decide)⟩
    have p2 : ∀ x : Int, ((x % c.m2) * (2 * t + c.t1) + c.a2 * t * t + c.b2).natAbs < 2 ^ 64 := fun x => by have := q1 x; omega
    have mm : ∀ x : Int, (2 * t + c.t1).natAbs < 2 ^ 64 := fun _ => by omega
    have fin : ∀ x : Int, 0 ≤ x % m ∧ x % m < m := fun x => ⟨Int.emod_nonneg _ (by omega), Int.emod_lt_of_pos _ hm0⟩
    have h10 : ((10 : Int)).natAbs < 2 ^ 64 := by decide
    have h2n : ((2 : Int)).natAbs < 2 ^ 64 := by decide
    have tail : ∀ (S1 : Store) (x : Int), drawT c [some (A.loc p), some (A.val (D.int m)), none, some (A.val (D.int t)), some (A.val (D.int x)), none, none] S1
        = .ok (.rt (.val (.int (((((((x % c.m1 + c.a1 * t + c.b1) ^ (5 : Int).toNat) % c.m2) * (2 * t + c.t1) + c.a2 * t * t + c.b2) ^ (3 : Int).toNat) % c.m3) / 32 % m)))) S1 := fun S1 x => by
      unfold drawT
      simp only [z_bind_ok, z_bindS_ok, z_C, z_var, z_kVar, z_op, z_kOp, z_un, z_nil, z_cons, z_kCons, z_kCons2, z_app, z_bool, z_kBool, z_and, z_kAnd_t, z_kAnd_f, z_or, z_kOr_t, z_kOr_f, z_not, z_kNot, z_andE, z_kAndE_t, z_kAndE_f, z_orE, z_kOrE_t, z_kOrE_f, z_ifE, z_kIfE_t, z_kIfE_f, z_frz, z_frz_v, z_seq, z_seq_nx, z_seq_rt, z_seq_bk, z_seq_ct, z_drop, z_kDrop, z_ret, z_kRet, z_retN, z_set, z_kSet, z_if, z_kIf_t, z_kIf_f, z_par, z_kPar, z_asg, z_kAsg, z_kAsg2, z_next, z_break, z_cont, z_gSet, z_for_nil, z_for_cons, z_kFor, z_kFor_nx, z_kFor_ct, z_kFor_bk, z_kFor_rt, z_forI, z_kForI, List.getElem?_cons_zero, List.getElem?_cons_succ, List.set_cons_zero, List.set_cons_succ, hIntC_i, hMod_i m10, hMul_l a1, hAdd_i, hPow_i (show (0 : Int) ≤ 5 by decide) (show (5 : Int) ≤ 1000000 by decide) (p1 x), hMod_i m20, hMul_l h2n, hMul_r (mm x), hMul_l a2, hMul_r tn, hPow_i (show (0 : Int) ≤ 3 by decide) (show (3 : Int) ≤ 1000000 by decide) (p2 _), hMod_i m30, hDiv_i (show (0 : Int) < 32 by decide) (show (32 : Int) < 2 ^ 64 by decide), hMod_i hm0]
    have hl : ∀ S1, hLst [] S1 = .ok (.val (.lst [])) S1 := fun _ => rfl
    by_cases hcs : cs = []
    · subst hcs
      have hlt : decide (t < (([] : List Int).map D.int).length) = false := decide_eq_false (by simp; omega)
      refine draw_wrap (t' := t + 1) (r' := r) (.inr rfl) hr hm0 ?_
      simp only [z_bind_ok, z_bindS_ok, z_C, z_var, z_kVar, z_op, z_kOp, z_un, z_nil, z_cons, z_kCons, z_kCons2, z_app, z_bool, z_kBool, z_and, z_kAnd_t, z_kAnd_f, z_or, z_kOr_t, z_kOr_f, z_not, z_kNot, z_andE, z_kAndE_t, z_kAndE_f, z_orE, z_kOrE_t, z_kOrE_f, z_ifE, z_kIfE_t, z_kIfE_f, z_frz, z_frz_v, z_seq, z_seq_nx, z_seq_rt, z_seq_bk, z_seq_ct, z_drop, z_kDrop, z_ret, z_kRet, z_retN, z_set, z_kSet, z_if, z_kIf_t, z_kIf_f, z_par, z_kPar, z_asg, z_kAsg, z_kAsg2, z_next, z_break, z_cont, z_gSet, z_for_nil, z_for_cons, z_kFor, z_kFor_nx, z_kFor_ct, z_kFor_bk, z_kFor_rt, z_forI, z_kForI, List.getElem?_cons_zero, List.getElem?_cons_succ, List.set_cons_zero, List.set_cons_succ, ix_pen2 hS, hGt_i, decide_eq_false hr0, ix_pen1 hS, hAdd_i, put1 hS (env := [some (A.loc p), some (A.val (D.int m)), none, some (A.val (D.int t)), none, none, none]) rfl, hMul_l k1, ix_pen0 hS1, hl, hNe_nil, List.isEmpty_nil, Bool.not_true, hLen_l, hLt_i, hlt, tail, z_kDef_v, take_set]
      exact ⟨_, rfl⟩
    · have hne : cs.isEmpty = false := by cases cs with | nil => exact absurd rfl hcs | cons _ _ => rfl
      have hpos : (0 : Int) < ((cs.map D.int).length : Nat) := by
        cases cs with
        | nil => exact absurd rfl hcs
        | cons _ _ => simp
      obtain ⟨x, hx⟩ := ix_cell (S := S.set p (some (penC cs (t + 1) r))) hcs (t % ((cs.map D.int).length : Nat)) (Int.emod_nonneg _ (by omega)) (by have := Int.emod_lt_of_pos t hpos; rw [List.length_map] at this ⊢; exact this)
      have pw : hPow (.val (.int 10)) (.val (.int 18)) (S.set p (some (penC cs (t + 1) r))) = .ok (.val (.int (10 ^ 18))) (S.set p (some (penC cs (t + 1) r))) := by
        rw [hPow_i (by decide) (by decide) h10]
        rfl
      by_cases hb : t < ((cs.map D.int).length : Nat) ∧ (10 : Int) ^ 18 ≤ (if x < 0 then -x else x)
      · refine draw_wrap (t' := t + 1) (r' := (2 * ((if x < 0 then -x else x) - 10 ^ 18) + (if decide (x < 0) = true then 1 else 0)) / m) (.inr rfl) ?_ hm0 ?_
        · refine Int.ediv_nonneg ?_ (Int.le_of_lt hm0)
          have := hb.2
          split <;> omega
        · simp only [z_bind_ok, z_bindS_ok, z_C, z_var, z_kVar, z_op, z_kOp, z_un, z_nil, z_cons, z_kCons, z_kCons2, z_app, z_bool, z_kBool, z_and, z_kAnd_t, z_kAnd_f, z_or, z_kOr_t, z_kOr_f, z_not, z_kNot, z_andE, z_kAndE_t, z_kAndE_f, z_orE, z_kOrE_t, z_kOrE_f, z_ifE, z_kIfE_t, z_kIfE_f, z_frz, z_frz_v, z_seq, z_seq_nx, z_seq_rt, z_seq_bk, z_seq_ct, z_drop, z_kDrop, z_ret, z_kRet, z_retN, z_set, z_kSet, z_if, z_kIf_t, z_kIf_f, z_par, z_kPar, z_asg, z_kAsg, z_kAsg2, z_next, z_break, z_cont, z_gSet, z_for_nil, z_for_cons, z_kFor, z_kFor_nx, z_kFor_ct, z_kFor_bk, z_kFor_rt, z_forI, z_kForI, List.getElem?_cons_zero, List.getElem?_cons_succ, List.set_cons_zero, List.set_cons_succ, ix_pen2 hS, hGt_i, decide_eq_false hr0, ix_pen1 hS, hAdd_i, put1 hS (env := [some (A.loc p), some (A.val (D.int m)), none, some (A.val (D.int t)), none, none, none]) rfl, hMul_l k1, ix_pen0 hS1, hl, hNe_nil, hne, Bool.not_false, hIntC_i, hLen_l, hMod_i hpos, hx, hLt_i, decide_eq_true hb.1, hAbs_i, pw, hGe_i, decide_eq_true hb.2, hSub_i, hMul_l h2n, hIntC_b, hDiv_i hm0 hm, put2 hS1 (env := [some (A.loc p), some (A.val (D.int m)), none, some (A.val (D.int t)), some (A.val (D.int x)), some (A.val (D.int (2 * ((if x < 0 then -x else x) - 10 ^ 18) + (if decide (x < 0) = true then 1 else 0)))), none]) rfl, hMod_i hm0, z_kDef_v, hS2, take_set]
          exact ⟨_, rfl⟩
      · refine draw_wrap (t' := t + 1) (r' := r) (.inr rfl) hr hm0 ?_
        by_cases h1 : t < ((cs.map D.int).length : Nat)
        · have h2 : ¬ (10 : Int) ^ 18 ≤ (if x < 0 then -x else x) := fun z => hb ⟨h1, z⟩
          simp only [z_bind_ok, z_bindS_ok, z_C, z_var, z_kVar, z_op, z_kOp, z_un, z_nil, z_cons, z_kCons, z_kCons2, z_app, z_bool, z_kBool, z_and, z_kAnd_t, z_kAnd_f, z_or, z_kOr_t, z_kOr_f, z_not, z_kNot, z_andE, z_kAndE_t, z_kAndE_f, z_orE, z_kOrE_t, z_kOrE_f, z_ifE, z_kIfE_t, z_kIfE_f, z_frz, z_frz_v, z_seq, z_seq_nx, z_seq_rt, z_seq_bk, z_seq_ct, z_drop, z_kDrop, z_ret, z_kRet, z_retN, z_set, z_kSet, z_if, z_kIf_t, z_kIf_f, z_par, z_kPar, z_asg, z_kAsg, z_kAsg2, z_next, z_break, z_cont, z_gSet, z_for_nil, z_for_cons, z_kFor, z_kFor_nx, z_kFor_ct, z_kFor_bk, z_kFor_rt, z_forI, z_kForI, List.getElem?_cons_zero, List.getElem?_cons_succ, List.set_cons_zero, List.set_cons_succ, ix_pen2 hS, hGt_i, decide_eq_false hr0, ix_pen1 hS, hAdd_i, put1 hS (env := [some (A.loc p), some (A.val (D.int m)), none, some (A.val (D.int t)), none, none, none]) rfl, hMul_l k1, ix_pen0 hS1, hl, hNe_nil, hne, Bool.not_false, hIntC_i, hLen_l, hMod_i hpos, hx, hLt_i, decide_eq_true h1, hAbs_i, pw, hGe_i, decide_eq_false h2, tail, z_kDef_v, take_set]
          exact ⟨_, rfl⟩
        · simp only [z_bind_ok, z_bindS_ok, z_C, z_var, z_kVar, z_op, z_kOp, z_un, z_nil, z_cons, z_kCons, z_kCons2, z_app, z_bool, z_kBool, z_and, z_kAnd_t, z_kAnd_f, z_or, z_kOr_t, z_kOr_f, z_not, z_kNot, z_andE, z_kAndE_t, z_kAndE_f, z_orE, z_kOrE_t, z_kOrE_f, z_ifE, z_kIfE_t, z_kIfE_f, z_frz, z_frz_v, z_seq, z_seq_nx, z_seq_rt, z_seq_bk, z_seq_ct, z_drop, z_kDrop, z_ret, z_kRet, z_retN, z_set, z_kSet, z_if, z_kIf_t, z_kIf_f, z_par, z_kPar, z_asg, z_kAsg, z_kAsg2, z_next, z_break, z_cont, z_gSet, z_for_nil, z_for_cons, z_kFor, z_kFor_nx, z_kFor_ct, z_kFor_bk, z_kFor_rt, z_forI, z_kForI, List.getElem?_cons_zero, List.getElem?_cons_succ, List.set_cons_zero, List.set_cons_succ, ix_pen2 hS, hGt_i, decide_eq_false hr0, ix_pen1 hS, hAdd_i, put1 hS (env := [some (A.loc p), some (A.val (D.int m)), none, some (A.val (D.int t)), none, none, none]) rfl, hMul_l k1, ix_pen0 hS1, hl, hNe_nil, hne, Bool.not_false, hIntC_i, hLen_l, hMod_i hpos, hx, hLt_i, decide_eq_false h1, tail, z_kDef_v, take_set]
          exact ⟨_, rfl⟩

/-! the pen made, an item picked -/
def penE : Sv := sRet (eApp hLstN (eCons (eApp hList (eCons (eSl (eVar 0) (oNone) (oSome (eC (.int 63)))) (eNil))) (eCons (eC (.int 0)) (eCons (eC (.int 0)) (eNil)))))
theorem cut63 (ns : List Int) : cutD (ns.map D.int) none (some 63) = (ns.take 63).map D.int := by
  unfold cutD
  have e1 : HT.sIx (ns.map D.int).length 0 none = 0 := rfl
  rw [e1, List.drop_zero, Nat.sub_zero, List.length_map]
  have e2 : HT.sIx ns.length ns.length (some 63) = min 63 ns.length := by
    unfold HT.sIx
    simp
  rw [e2, List.map_take]
  by_cases h : ns.length ≤ 63
  · rw [Nat.min_eq_right h, List.take_of_length_le (by simp), List.take_of_length_le (by simpa using h)]
  · rw [Nat.min_eq_left (by omega)]
theorem pen_ok {S : Store} (ns : List Int) : defF 1 penE [.val (.scr ns)] S = .ok (.loc S.length) (S ++ [some (penC (ns.take 63) 0 0)]) := by
  have est : startE 1 [.val (.scr ns)] = [some (.val (.scr ns))] := rfl
  have e1 : eSl (eVar 0) oNone (oSome (eC (.int 63))) [some (.val (.scr ns))] S = .ok (.val (.lst ((ns.take 63).map D.int))) S := by
    show (Out.ok (A.val (.lst (cutD (ns.map D.int) none (some 63)))) S) = _
    rw [cut63]
  have e2 : ∀ ds : List D, hList [.val (.lst ds)] S = .ok (.val (.lst ds)) S := fun _ => rfl
  have e3 : hLstN [.val (.lst ((ns.take 63).map D.int)), .val (.int 0), .val (.int 0)] S = .ok (.loc S.length) (S ++ [some (penC (ns.take 63) 0 0)]) := rfl
  rw [z_def, est]
  unfold penE
  simp only [z_bind_ok, z_bindS_ok, z_C, z_var, z_kVar, z_op, z_kOp, z_un, z_nil, z_cons, z_kCons, z_kCons2, z_app, z_bool, z_kBool, z_and, z_kAnd_t, z_kAnd_f, z_or, z_kOr_t, z_kOr_f, z_not, z_kNot, z_andE, z_kAndE_t, z_kAndE_f, z_orE, z_kOrE_t, z_kOrE_f, z_ifE, z_kIfE_t, z_kIfE_f, z_frz, z_frz_v, z_seq, z_seq_nx, z_seq_rt, z_seq_bk, z_seq_ct, z_drop, z_kDrop, z_ret, z_kRet, z_retN, z_set, z_kSet, z_if, z_kIf_t, z_kIf_f, z_par, z_kPar, z_asg, z_kAsg, z_kAsg2, z_next, z_break, z_cont, z_gSet, z_for_nil, z_for_cons, z_kFor, z_kFor_nx, z_kFor_ct, z_kFor_bk, z_kFor_rt, z_forI, z_kForI, List.getElem?_cons_zero, List.getElem?_cons_succ, List.set_cons_zero, List.set_cons_succ, e1, e2, e3]
  unfold kDef
  dsimp only
  rw [if_neg (Nat.lt_irrefl _), List.getElem?_append_right (Nat.le_refl _), Nat.sub_self]
  dsimp only [List.getElem?_cons_zero]
  rw [List.take_left]
def pickE (G : List A → Store → Out A) : Sv := sRet (eOp hIx (eVar 1) (eApp (callG 2 G []) (eCons (eVar 0) (eCons (eApp hLen (eCons (eVar 1) (eNil))) (eNil)))))
theorem pick_ok {c : DrawC} (hc : c.ok = true) {S : Store} {p : Nat} {cs : List Int} {t r : Int} {ds : List D} (hS : S[p]? = some (some (penC cs t r))) (ht0 : 0 ≤ t) (ht : t ≤ 1000000) (hr : 0 ≤ r) (hd0 : ds ≠ []) (hd : ds.length ≤ 1000000) :
    ∃ t' r' d, (t' = t ∨ t' = t + 1) ∧ 0 ≤ r' ∧ d ∈ ds ∧ defF 2 (pickE (defF 7 (drawE c))) [.loc p, .val (.lst ds)] S = .ok (.val d) (S.set p (some (penC cs t' r'))) := by
  have hp : 0 < ds.length := List.length_pos_iff.mpr hd0
  obtain ⟨t', r', v, h1, h2, h3, h4, e⟩ := draw_ok hc hS ht0 ht hr (m := (ds.length : Nat)) (by omega) (by omega)
  have hv : v.toNat < ds.length := by omega
  refine ⟨t', r', ds[v.toNat], h1, h2, List.getElem_mem hv, ?_⟩
  have est : startE 2 [.loc p, .val (.lst ds)] = [some (.loc p), some (.val (.lst ds))] := rfl
  have e2 : ∀ S1, hIx (.val (.lst ds)) (.val (.int v)) S1 = .ok (.val ds[v.toNat]) S1 := fun S1 => by
    have ea : L2.atI ds v = some ds[v.toNat] := by
      unfold L2.atI ixN
      rw [if_pos h3, if_pos h4]
      simp [hv]
    unfold hIx lst?
    simp only [ea]
  rw [z_def, est]
  unfold pickE
  simp only [z_bind_ok, z_bindS_ok, z_C, z_var, z_kVar, z_op, z_kOp, z_un, z_nil, z_cons, z_kCons, z_kCons2, z_app, z_bool, z_kBool, z_and, z_kAnd_t, z_kAnd_f, z_or, z_kOr_t, z_kOr_f, z_not, z_kNot, z_andE, z_kAndE_t, z_kAndE_f, z_orE, z_kOrE_t, z_kOrE_f, z_ifE, z_kIfE_t, z_kIfE_f, z_frz, z_frz_v, z_seq, z_seq_nx, z_seq_rt, z_seq_bk, z_seq_ct, z_drop, z_kDrop, z_ret, z_kRet, z_retN, z_set, z_kSet, z_if, z_kIf_t, z_kIf_f, z_par, z_kPar, z_asg, z_kAsg, z_kAsg2, z_next, z_break, z_cont, z_gSet, z_for_nil, z_for_cons, z_kFor, z_kFor_nx, z_kFor_ct, z_kFor_bk, z_kFor_rt, z_forI, z_kForI, List.getElem?_cons_zero, List.getElem?_cons_succ, List.set_cons_zero, List.set_cons_succ, hLen_l, z_call (as := [A.loc p, A.val (D.int (ds.length : Nat))]) (n := 2) rfl, e, e2, z_kDef_v, take_set]
end R


namespace R
open PySem L2

/-! ### raise C(e, ..) -/
def kRaise (c : Nat) (ns : List Str) (env : Env) (as : List A) (S : Store) : OutS := match vals? as with
  | some ds => if ds.length = ns.length then .exc c ns ds env S else .bad
  | none => .bad
def sRaise (c : Nat) (ns : List Str) (f : Ev (List A)) : Sv := fun env S => (f env S).bindS env (kRaise c ns env)
theorem del_upd2 {H : Hp} {a dx : Addr} {u v w : HO} (h1 : H a = none) (h3 : dx ≠ a) : upd (del (upd (upd (upd H a u) dx v) a w) a) dx (.xd fs) = upd H dx (.xd fs) := by
  funext b
  by_cases hb : b = dx
  · subst hb
    rw [upd_same, upd_same]
  · rw [upd_ne hb, upd_ne hb]
    by_cases hba : b = a
    · subst hba
      rw [del_same, h1]
    · rw [del_ne hba, upd_ne hba, upd_ne hb, upd_ne hba]
section
variable {X : Cx} {cl : CL} {W : WX} {e : Expr} {es : List Expr} {p pos rpos : Pos} {x : Str} {c : Nat} {ns : List Str} {kbs : List (List Str × List Nat)} {f : Ev (List A)}
theorem ss_raise (F : ExR X.prog X.w X.K X.mg X.base (cl c) ns kbs) (B : Bx X W) (hr : Room 2 X.A) (hm : X.mg x = some (.ref (cl c))) (ha : SA X cl W (e :: es) f) (hc : X.calm = true := by rfl) (hg : Gl X x := by rfl)
    (hdb : (x == ("__debug__" : Str)) = false := by decide) (he : starEach (e :: es) X.env = (false, eval e X.env) :: starEach es X.env := by rfl) (hpl : (backTo pos (starEach es X.env)).any (·.1) = false := by rfl) :
    SS X cl W (.Raise (some (.Call (.Name x p) (e :: es) [] pos)) none rpos) (sRaise c ns f) := by
  obtain ⟨fI, fd, ps, T, iC, tI, hb, hps, F1, _⟩ := F.ex
  obtain ⟨_, pa, ra⟩ := ha.ex
  refine ⟨_, ps_raise hc B.tk (pmk_oex T iC tI F1 hr hb .nil passL hg hm pa hdb he hpl), fun σ Hv H S ad env Dn re so q => ?_⟩
  refine ra σ Hv H S ad env _ re so ((q.bind re).mono fun as S1 Hv1 ad1 H1 e1 p1 s1 q1 vs r1 => ?_)
  unfold kRaise at q1
  split at q1
  · rename_i ds ed
    have rs := vals_rep r1 ed
    split at q1
    · rename_i hl
      have hlv : vs.length = ns.length := by rw [rs.length]; exact hl
      refine ⟨by rw [hlv]; exact Nat.le_trans F.few (by decide), fun a h1 => ⟨a, vs ++ [], rfl, by rw [List.append_nil]; exact hlv, upd_same, fun dx h2 h3 => ⟨rfl, dx, exFs ns (vs ++ []), upd_same, by rw [upd_ne h3, upd_same], ?_, ?_⟩⟩⟩
      · rw [upd_ne h3] at h2
        exact h2
      · rw [upd_ne h3] at h2
        rw [del_upd2 h1 h3, List.append_nil]
        obtain ⟨g1, g2⟩ := exFs_lookup (vs := vs) F.nd hlv
        exact q1 σ Hv1 ad1 _ (some dx) (Ex.refl _) (Pre.refl _) (s1.hid h2) (re.mono e1 p1) ⟨exFs ns vs, upd_same, g2, by rw [g1]; exact rs⟩
    · exact q1.elim
  · exact q1.elim
end
end R


namespace R
open PySem L2

/-! ### statements by their evaluators -/
def cS (K : PySem.W.Frag) (cl : CL) (W : WX) (f : Sv) : TS := fun Dn σ H => ∃ Hv S ad env, RepEnv K cl Hv ad σ env ∧ StOk K cl Hv H S ad ∧ PstS K cl W Hv ad Dn (f env S)
theorem SSs.can {X : Cx} {cl : CL} {W : WX} {b : List Stmt} {f : Sv} (h : SSs X cl W b f) : PSs X b (cS X.K cl W f) :=
  let ⟨_, p, r⟩ := h.ex
  ⟨fun pins s σ H D I ⟨Hv, S, ad, env, re, so, q⟩ => p.run pins s σ H D I (r σ Hv H S ad env D re so q)⟩

/-! ### an exception that was caught, known from now on -/
def XcO (a : Addr) (cls : Value) (d : Option Addr) : HO := .ext fun h => ∃ (oe : Obj) (vs : Array Value), h.get? a = some oe ∧ Zc cls d oe ∧ oe.data = .fields vs
theorem xcO_ok {P : Program} {w : World} {H : Hp} {h : Heap} {a : Addr} {cls : Value} {d : Option Addr} {oe : Obj} {vs : Array Value} (e : h.get? a = some oe) (z : Zc cls d oe) (dd : oe.data = .fields vs) : ObjOk P w H h a (XcO a cls d) :=
  ⟨⟨oe, vs, e, z, dd⟩, ⟨oe, e⟩, fun _ _ ⟨o, v, q, r⟩ k => ⟨o, v, k o q, r⟩⟩
section
variable {X : Cx} {pins : List (Addr × Obj)} {σ : St} {H : Hp} {s : Shared}
/-- an object that is there, untracked, and was not there at the entry -/
theorem inv_track {a : Addr} {o : HO} (I : Inv X pins σ H s) (hn : H a = none) (h0 : X.s_0.heap.get? a = none) (nL : X.env.locals ≠ a) (nC : ∀ x c, X.env.cells.lookup x = some c → c ≠ a) (nP : ∀ p ∈ X.pn ++ pins, p.1 ≠ a)
    (new : ObjOk X.prog X.w (upd H a o) s.heap a o) : Inv X pins σ (upd H a o) s := by
  have up : ∀ {b : Addr} {u : HO}, H b = some u → upd H a o b = some u := fun {b u} e => by
    rw [upd_ne (ne_of_none e hn)]
    exact e
  refine ⟨I.ok, I.os, I.bare, ⟨I.base.keep, I.base.slot, fun b u e n hx => ?_, I.base.there, fun b xs e => up (I.base.tups b xs e), fun b u v e => up (I.base.frzs b u v e), fun b ps e => ?_⟩, I.loc, I.cell, ?_, fun x c e => ?_, fun p hp => ?_, fun b u e => ?_, I.len⟩
  · rw [upd_ne (fun z => by rw [z, h0] at e; cases e)]
    exact I.base.free b u e n hx
  · obtain ⟨m, q⟩ := I.base.tbls b ps e
    exact ⟨m, up q⟩
  · rw [upd_ne nL]
    exact I.free
  · rw [upd_ne (nC x c e)]
    exact I.freeC x c e
  · obtain ⟨e, n, r⟩ := I.pin p hp
    exact ⟨e, by rw [upd_ne (nP p hp)]; exact n, r⟩
  · by_cases hb : b = a
    · subst hb
      rw [upd_same] at e
      cases e
      exact new
    · rw [upd_ne hb] at e
      exact (I.hok b u e).stay (fun c v _ q => q) (fun c q => up q) fun c xs q => up q
end

/-! ### try: .. except x as n: .. -/
def wKeep (K : PySem.W.Frag) (c : Value) (i : Nat) (ts : TS) (Wout : WX) (D : Ends) : WX := fun cls d σ H =>
  ∃ b, PySem.W.exmOne K cls c = some b ∧ (b = true → ∀ a, H a = none → ts { nx := fun σ' H' => D.nx (σ'.set i none) H', rt := D.rt, bk := fun σ' H' => D.bk (σ'.set i none) H', ct := fun σ' H' => D.ct (σ'.set i none) H' } (σ.set i (some (.ref a))) (upd H a (XcO a cls d))) ∧
    (b = false → Wout cls d σ H)
section
variable {X : Cx} {x n : Str} {c : Value} {i : Nat} {body suite : List Stmt} {b0 : Stmt} {np pos pos' : Pos} {tb : WX → TS} {ts : TS} {Wout : WX}
theorem ps_try_keep (hs : X.stack = X.env :: X.outer) (hf : X.env.frame = some X.env.locals) (hex : X.ex = []) (hN : X.N.Nodup) (hi : X.N[i]? = some n) (hln : X.env.kindOf n = some .local) (hc : Names X x c) (tk : Takes X Wout)
    (hb : ∀ (W : WX) (pn : List (Addr × Obj)) (xe : Value → Shared → Prop), Takes (X.tr pn xe) W → PassesOwn (model X.prog X.w) X.A X.env xe → PSs (X.tr pn xe) body (tb W))
    (hsu : ∀ (a : Addr) (pn : List (Addr × Obj)), PSs (X.suite a pn) (b0 :: suite) ts) :
    PS X (.Try body [.ExceptHandler (some (.Name x np)) (some n) (b0 :: suite) pos'] [] [] pos) (fun D σ H => tb (wKeep X.K c i ts Wout D) D σ H) := by
  constructor
  intro pins s σ H D I h
  have ok := I.ok
  have frm : X.A.frames = some (X.env :: X.outer) := hs ▸ ok.frames
  have lo : Loc X.env.scope n := Or.inl hln
  refine wpAny_Try_except (wpAny_mono ((hb (wKeep X.K c i ts Wout D) (X.pn ++ pins) _ (fun u s' air => ?caught) PassesOwn.looking).run [] s σ H D (I.toTry _) h) (fun fl s1 hsp => ?thru) fun _ _ z => z)
  case thru =>
    match fl, hsp with
    | .next, ⟨σ1, H1, J, q⟩ => exact wpAny_execs_nil ⟨σ1, H1, J.ofTry ok, q⟩
    | .brk, ⟨σ1, H1, J, q⟩ => exact ⟨σ1, H1, J.ofTry ok, q⟩
    | .cont, ⟨σ1, H1, J, q⟩ => exact ⟨σ1, H1, J.ofTry ok, q⟩
    | .ret u, ⟨v, σ1, H1, J, r, q⟩ => exact ⟨v, σ1, H1, J.ofTry ok, r, q⟩
  case caught =>
    obtain ⟨a, B, sI, pins1, σ1, H1, cls, d, rfl, J0, nb, up, sky, na, os, ag, b, hb1, hyes, hno⟩ := air
    have J : Inv X pins σ1 H1 sI := J0.ofTry ok
    rw [show (X.tr (X.pn ++ pins) _).stack = X.env :: X.outer from hs] at sky
    show wpAny (model X.prog X.w) X.A (noteFrame (.ref a) X.env) _ _ _
    refine Sky.land Zc.steady frm hf sky fun h3 fl3 up3 => ?_
    have J3 : Inv X pins σ1 H1 { s' with heap := h3 } := J.landed nb fl3.1 (up.trans up3) os ag
    obtain ⟨oe3, vs3, he3, hz3, hd3⟩ := fl3.there
    have gB : B.get? a = none := fl3.2.1
    have nfr : a ∉ frs (X.env :: X.outer) := fun hm => by
      obtain ⟨_, o', e', hnf⟩ := fl3.2.2.1.mem hm
      rw [he3] at e'
      cases e'
      exact hnf _ hd3
    have nL : a ≠ X.env.locals := fun z => nfr (List.mem_filterMap.mpr ⟨X.env, List.mem_cons_self, by rw [hf, z]⟩)
    have notI : sI.heap.get? a = none := by
      cases q : sI.heap.get? a with
      | none => rfl
      | some o =>
        have z := nb a o q (by rw [show frs X.stack = frs (X.env :: X.outer) from by rw [hs]]; exact nfr)
        rw [gB] at z
        cases z
    have old : X.s_0.heap.get? a = none := by
      cases q : X.s_0.heap.get? a with
      | none => rfl
      | some o =>
        obtain ⟨o', z⟩ := J.base.there a o q (by rw [hex]; exact fun z => nomatch z)
        rw [notI] at z
        cases z
    have nP : ∀ p ∈ X.pn ++ pins, p.1 ≠ a := fun p hp z => by
      have e := (J.pin p hp).1
      rw [z, notI] at e
      cases e
    have track : ∀ {h : Heap} {oe : Obj} {vs : Array Value}, Inv X pins σ1 H1 { s' with heap := h } → h.get? a = some oe → Zc cls d oe → oe.data = .fields vs → Inv (X.suite a (X.pn ++ pins)) [] σ1 (upd H1 a (XcO a cls d)) { s' with heap := h } := fun {h oe vs} I he hz hd => by
      have T := inv_track I na old (Ne.symm nL) (fun y c0 e z => by
        obtain ⟨v, o, ho, hcd⟩ := I.cell y c0 e
        rw [z, he] at ho
        cases ho
        rw [hd] at hcd
        cases hcd) nP (xcO_ok he hz hd)
      exact ⟨T.ok.suite _ _, T.os, T.bare, T.base, T.loc, T.cell, T.free, T.freeC, fun p hp => T.pin p (by rw [List.append_nil] at hp; exact hp), T.hok, T.len⟩
    refine wpAny_handleBy_cons (codeAny_handlers_test ?_) (by intro q; cases q)
    have LT : PySem.W.Looks (model X.prog X.w) h3 (typeOf (.ref a)) cls := fun A Q E s k q => wpAny_typeOf_ref (k _ _ he3) (by rw [hz3.1]; exact q)
    have LM := PySem.W.exm_one (M := model X.prog X.w) J3.kIn LT hb1
    have S3 := track J3 he3 hz3 hd3
    have name : ∀ {Q : Value → Shared → Prop} {E : Value → Shared → Prop}, Q c { s' with heap := h3 } → wpAny (model X.prog X.w) (X.A.mark (some (.ref a))) (eval (.Name x np) X.env) Q E { s' with heap := h3 } := fun {Q E} q => by
      obtain ⟨hg, hdbg, hm | ⟨hm, hv, hnn⟩⟩ := hc
      · exact ld_glob (X := X.suite a (X.pn ++ pins)) S3 hg hm q hdbg
      · exact ld_blt (X := X.suite a (X.pn ++ pins)) S3 hg hm hv q hnn hdbg
    refine name (LM.here ?_)
    cases b with
    | true =>
      refine codeAny_handlers_suite_as (HandSPX.lands_againZ fl3 fun h4 fl4 up4 => ?_)
      obtain ⟨oe4, vs4, he4, hz4, hd4⟩ := fl4.there
      have S4 := track (J.landed nb fl4.1 ((up.trans up3).trans up4) os ag) he4 hz4 hd4
      refine store_ok (X := X.suite a (X.pn ++ pins)) (v := .ref a) S4 hN hi lo rfl (fun s5 S5 => ?_) (.inr hln)
      refine wpAny_mono ((hsu a (X.pn ++ pins)).run [] s5 _ _ _ S5 (hyes rfl a na)) (fun fl s6 hsp => ?_) fun _ _ z => False.elim z
      have close : ∀ {σ6 : St} {H6 : Hp} {Q : Shared → Prop}, Inv (X.suite a (X.pn ++ pins)) [] σ6 H6 s6 → (∀ s7, Inv X pins (σ6.set i none) H6 s7 → Q s7) →
          wpAny (model X.prog X.w) X.A (do bindName X.env n .none; unbindBehindTheSuite X.env n pos') (fun _ s7 => Q s7) X.xe s6 := fun {σ6 H6 Q} S6 hq =>
        gone_ok (X := X) (pins := pins) ⟨ok, S6.os, S6.bare, S6.base, S6.loc, S6.cell, S6.free, S6.freeC, fun p hp => S6.pin p (List.mem_append_left _ hp), S6.hok, S6.len⟩ hN hi hln hq
      match fl, hsp with
      | .next, ⟨σ6, H6, S6, q6⟩ => exact close S6 fun s7 J7 => ⟨_, _, J7, q6⟩
      | .brk, ⟨σ6, H6, S6, q6⟩ => exact close S6 fun s7 J7 => ⟨_, _, J7, q6⟩
      | .cont, ⟨σ6, H6, S6, q6⟩ => exact close S6 fun s7 J7 => ⟨_, _, J7, q6⟩
      | .ret u, ⟨v6, σ6, H6, S6, r6, q6⟩ => exact close S6 fun s7 J7 => ⟨_, _, _, J7, r6, q6⟩
    | false =>
      show wpAny _ X.A (handleBy (.ref a) X.env []) _ _ _
      refine wpAny_handleBy_nil ?_
      obtain ⟨_, _, _, oe, vs, T, oT, tvs, he, hz, hd, hT, _⟩ := id fl3
      unfold PySem.passOn
      refine wpAny_bind (wpAny_field he hd hT ?_)
      rw [if_neg (show ¬ ((Value.ref T == Value.none) = true) from by simp)]
      have out : wpAny (model X.prog X.w) X.A (setFlight (.ref a) X.env.frame) (fun _ s4 => wpAny (model X.prog X.w) X.A (throw (.ref a) : Sem Flow) (L2.SP X pins D) X.xe s4) X.xe { s' with heap := h3 } := by
        rw [hf]
        exact HandSPX.setFlight_upZ fl3 fun h4 hh4 up4 => wpAny_throw (tk _ _ ⟨a, B, sI, pins, σ1, H1, cls, d, rfl, J, nb, (up.trans up3).trans up4, .inr (.inr (by rw [hs]; exact hh4)), na, os, ag, hno rfl⟩)
      first
        | exact wpAny_bind (wpAny_pure (wpAny_bind out))
        | exact wpAny_bind out
end

/-! ### the same by evaluators -/
def unsetE (i : Nat) (o : OutS) : OutS := match o with
  | .ok (.nx e) S => .ok (.nx (e.set i none)) S
  | .ok (.bk e) S => .ok (.bk (e.set i none)) S
  | .ok (.ct e) S => .ok (.ct (e.set i none)) S
  | .ok (.rt a) S => .ok (.rt a) S
  | _ => .bad
def kTry (t : CtT) (h i : Nat) (fs : Sv) (o : OutS) : OutS := match o with
  | .exc c ns vs env S => if (c < t.n ∧ h < t.n) ∧ t.exc c = true ∧ t.exc h = true then (if Tag.o h ∈ t.mro c then unsetE i (fs (env.set i (some (.val (.exc c ns vs)))) S) else .exc c ns vs env S) else .bad
  | .ok f S => .ok f S
  | .bad => .bad
def sTry (t : CtT) (h i : Nat) (fb fs : Sv) : Sv := fun env S => kTry t h i fs (fb env S)
theorem StOk.see {K : PySem.W.Frag} {cl : CL} {Hv H : Hp} {S : Store} {ad : List Addr} {d : Addr} {u : HO} (h : StOk K cl Hv H S ad) (hd : H d = some u) (hu : ¬ NT u) (ht : ∀ ps, u ≠ .tbl ps) : StOk K cl (upd Hv d u) H S ad ∧ Ex Hv (upd Hv d u) := by
  have ex : Ex Hv (upd Hv d u) := fun b o e => by
    by_cases hb : b = d
    · subst hb
      have := h.ex _ _ e
      rw [hd] at this
      rw [upd_same]
      exact this
    · rw [upd_ne hb]
      exact e
  refine ⟨⟨fun b o e => ?_, h.len, fun n c q => ?_, h.inj, h.sm.elim fun o z => z.elim fun φ z => ⟨o, φ, ex _ _ z⟩, h.tb, tn_new h.tn ht, h.kn.trans ex, h.ka⟩, ex⟩
  · by_cases hb : b = d
    · subst hb
      rw [upd_same] at e
      rw [hd]
      exact e
    · rw [upd_ne hb] at e
      exact h.ex _ _ e
  · obtain ⟨a, h1, h2, h3⟩ := h.at_ n c q
    have ne : a ≠ d := fun z => by
      obtain ⟨o, ho, hk⟩ := h3.kind
      rw [z, hd] at ho
      cases ho
      exact hu hk
    exact ⟨a, h1, by rw [upd_ne ne]; exact h2, h3.mono ex (Pre.refl _)⟩
theorem unset_pst {K : PySem.W.Frag} {cl : CL} {W : WX} {Hv : Hp} {ad : List Addr} {D : Ends} {i : Nat} {o : OutS} (h : PstS K cl W Hv ad D (unsetE i o)) :
    PstS K cl WF Hv ad { nx := fun σ' H' => D.nx (σ'.set i none) H', rt := D.rt, bk := fun σ' H' => D.bk (σ'.set i none) H', ct := fun σ' H' => D.ct (σ'.set i none) H' } o := by
  cases o with
  | ok f S =>
    cases f with
    | nx e => exact fun σ1 Hv1 ad1 H1 e1 p1 s1 re => h (σ1.set i none) Hv1 ad1 H1 e1 p1 s1 (re.unset i)
    | rt a => exact h
    | bk e => exact fun σ1 Hv1 ad1 H1 e1 p1 s1 re => h (σ1.set i none) Hv1 ad1 H1 e1 p1 s1 (re.unset i)
    | ct e => exact fun σ1 Hv1 ad1 H1 e1 p1 s1 re => h (σ1.set i none) Hv1 ad1 H1 e1 p1 s1 (re.unset i)
  | exc c ns vs e S => exact h.elim
  | bad => exact h
section
variable {X : Cx} {cl : CL} {W : WX} {x n : Str} {h i : Nat} {t : CtT} {body suite : List Stmt} {b0 : Stmt} {np pos pos' : Pos} {fb fs : Sv}
theorem bx_suite {a : Addr} {pn : List (Addr × Obj)} (B : Bx X W) : Bx (X.suite a pn) WF := ⟨takes0, PassesOwn.never, B.gd⟩
theorem ss_try (T : CtOk t X.K cl) (B : Bx X W) (i : Nat) (hN : X.N.Nodup) (hm : X.mg x = some (.ref (cl h)))
    (hb : ∀ (W' : WX) (pn : List (Addr × Obj)) (xe : Value → Shared → Prop), Bx (X.tr pn xe) W' → SSs (X.tr pn xe) cl W' body fb)
    (hsu : ∀ (a : Addr) (pn : List (Addr × Obj)), Bx (X.suite a pn) WF → SSs (X.suite a pn) cl WF (b0 :: suite) fs)
    (hs : X.stack = X.env :: X.outer := by rfl) (hf : X.env.frame = some X.env.locals := by rfl) (hex : X.ex = [] := by rfl) (hi : X.N[i]? = some n := by rfl) (hln : X.env.kindOf n = some .local := by rfl)
    (hg : Gl X x := by rfl) (hdb : (x == ("__debug__" : Str)) = false := by decide) :
    SS X cl W (.Try body [.ExceptHandler (some (.Name x np)) (some n) (b0 :: suite) pos'] [] [] pos) (sTry t h i fb fs) := by
  refine ⟨_, ps_try_keep (c := .ref (cl h)) (tb := fun W' => cS X.K cl W' fb) (ts := cS X.K cl WF fs) hs hf hex hN hi hln ⟨hg, hdb, .inl hm⟩ B.tk (fun W' pn xe tk po => (hb W' pn xe ⟨tk, po, B.gd⟩).can) (fun a pn => (hsu a pn (bx_suite B)).can), fun σ Hv H S ad env Dn re so q => ⟨Hv, S, ad, env, re, so, ?_⟩⟩
  have q' : PstS X.K cl W Hv ad Dn (kTry t h i fs (fb env S)) := q
  cases ef : fb env S with
  | ok f S1 =>
    rw [ef] at q'
    cases f <;> exact q'
  | bad =>
    rw [ef] at q'
    exact q'
  | exc c ns vs env1 S1 =>
    rw [ef] at q'
    unfold kTry at q'
    dsimp only at q'
    split at q'
    · rename_i hc
      obtain ⟨⟨c1, c2⟩, c3, c4⟩ := hc
      intro σ1 Hv1 ad1 H1 dd e1 p1 s1 re1 xat
      refine ⟨_, T.exm c c1 h c2 c3 c4, fun hb a na => ?_, fun hb => ?_⟩
      · have hin := of_decide_eq_true hb
        rw [if_pos hin] at q'
        have isx : ∃ φ, XcO a (.ref (cl c)) dd = .ext φ ∧ IsExc φ a (cl c) dd := ⟨_, rfl, fun h z => z⟩
        obtain ⟨φ, eφ, iφ⟩ := isx
        have key : ∀ Hv2, StOk X.K cl Hv2 H1 S1 ad1 → Ex Hv1 Hv2 → Rep X.K cl (upd Hv2 a (XcO a (.ref (cl c)) dd)) (.ref a) (.exc c ns vs) →
            cS X.K cl WF fs { nx := fun σ' H' => Dn.nx (σ'.set i none) H', rt := Dn.rt, bk := fun σ' H' => Dn.bk (σ'.set i none) H', ct := fun σ' H' => Dn.ct (σ'.set i none) H' } (σ1.set i (some (.ref a))) (upd H1 a (XcO a (.ref (cl c)) dd)) := fun Hv2 s2 e2 rx => by
          have e3 : Ex Hv2 (upd Hv2 a (XcO a (.ref (cl c)) dd)) := Ex.new (s2.ex.nn na)
          have e4 : Ex Hv (upd Hv2 a (XcO a (.ref (cl c)) dd)) := e1.trans (e2.trans e3)
          exact ⟨_, S1, ad1, _, ((re1.mono (e2.trans e3) (Pre.refl _)).set i (a := .val (.exc c ns vs)) rx), s2.new na (by rw [eφ]; intro ps z; cases z), unset_pst (q'.up e4 p1)⟩
        cases dd with
        | none =>
          obtain ⟨rfl, rfl⟩ := xat
          exact key Hv1 s1 (Ex.refl _) (.exc0 (φ := φ) (by rw [upd_same, eφ]) iφ)
        | some d =>
          obtain ⟨fl, hd, hF, rs⟩ := xat
          obtain ⟨s2, e2⟩ := s1.see hd (fun z => z) (fun ps z => by cases z)
          have nda : d ≠ a := ne_of_none hd na
          refine key _ s2 e2 (.exc (φ := φ) (dx := d) (o := .xd fl) (fs := fl) (by rw [upd_same, eφ]) iφ (by rw [upd_ne nda, upd_same]) (.inl rfl) hF (rs.mono (e2.trans (Ex.new (s2.ex.nn na)))))
      · have hin : ¬ Tag.o h ∈ t.mro c := of_decide_eq_false hb
        rw [if_neg hin] at q'
        exact q' σ1 Hv1 ad1 H1 dd e1 p1 s1 re1 xat
    · exact q'.elim
end
end R


namespace R
open PySem L2

/-! ### x(lambda: e): a def that calls what it got -/
/-- what is called is the function value 0, held by slot i -/
def eThk (i : Nat) (th : Store → Out A) : Ev A := fun env S => match env[i]? with
  | some (some (.fv 0)) => th S
  | _ => .bad
def noFv (o : Out A) : Out A := match o with
  | .ok (.fv _) _ => .bad
  | o => o
/-- n slots; the first holds the lambda -/
def eLam (n : Nat) (fb : (Store → Out A) → Sv) (fE : Ev A) : Ev A := fun env S => kDef S (fb (fun S' => noFv (fE env S')) (startE n [.fv 0]) S)
/-! the same of layers that differ in what is known alone -/
section
variable {K : PySem.W.Frag} {c : Nat → Addr} {t1 t2 : List (Addr × Str)} {k1 k2 : Hp} {a1 a2 f1 f2 : List Addr} {Hv H : Hp} {S : Store} {ad : List Addr}
theorem Rep.re {v : V} {d : D} (r : Rep K ⟨c, t1, k1, a1, f1⟩ Hv v d) : Rep K ⟨c, t2, k2, a2, f2⟩ Hv v d :=
  Rep.rec (K := K) (cl := ⟨c, t1, k1, a1, f1⟩) (H := Hv) (motive_1 := fun v d _ => Rep K ⟨c, t2, k2, a2, f2⟩ Hv v d) (motive_2 := fun vs ds _ => Reps K ⟨c, t2, k2, a2, f2⟩ Hv vs ds) .non .bl .int .str (fun h _ r => .tup h r) (fun h _ r => .lst h r) (fun h => .scr h) (fun h q _ r => .dK h q r) (fun h q _ r => .dT h q r)
    (fun h q _ r => .obj h q r) (fun h i h2 x q _ r => .exc h i h2 x q r) (fun h i => .exc0 h i) .ty .cls .nil (fun _ _ a b => .cons a b) r
theorem Reps.re : ∀ {vs : List V} {ds : List D}, Reps K ⟨c, t1, k1, a1, f1⟩ Hv vs ds → Reps K ⟨c, t2, k2, a2, f2⟩ Hv vs ds
  | _, _, .nil => .nil
  | _, _, .cons a b => .cons a.re (Reps.re b)
theorem ConAt.re {a : Addr} : ∀ {x : Con}, ConAt K ⟨c, t1, k1, a1, f1⟩ Hv ad H a x → ConAt K ⟨c, t2, k2, a2, f2⟩ Hv ad H a x
  | .lst _, ⟨xs, h, r⟩ => ⟨xs, h, r.re⟩
  | .dic _ _, ⟨kvs, h, q, r⟩ => ⟨kvs, h, q, r.re⟩
  | .dit _ _, ⟨kvs, h, q, r⟩ => ⟨kvs, h, q, r.re⟩
  | .ins _ _ _, ⟨dx, fs, h, q, r⟩ => ⟨dx, fs, h, q, r.re⟩
theorem StOk.re (h : StOk K ⟨c, t1, k1, a1, f1⟩ Hv H S ad) (hk : Ex k2 Hv) (ha : Pre a2 ad) : StOk K ⟨c, t1, k2, a2, f2⟩ Hv H S ad :=
  ⟨h.ex, h.len, fun n x q => let ⟨a, g1, g2, g3⟩ := h.at_ n x q; ⟨a, g1, g2, g3.re⟩, h.inj, h.sm, h.tb, h.tn, hk, ha⟩
theorem ExcAt.re {ns : List Str} {vs : List D} : ∀ {dd : Option Addr}, ExcAt K ⟨c, t1, k1, a1, f1⟩ Hv H ns vs dd → ExcAt K ⟨c, t2, k2, a2, f2⟩ Hv H ns vs dd
  | some _, ⟨fs, h, q, r⟩ => ⟨fs, h, q, r.re⟩
  | none, h => h
theorem Pst.re {Hv2 : Hp} {ad2 : List Addr} {W1 W2 : WX} {σ1 σ2 : St} {Q : VK} {o : Out A} (hnf : ∀ k S', o ≠ .ok (.fv k) S') (q : Pst K ⟨c, t1, k1, a1, f1⟩ W1 σ1 Hv ad (RA K ⟨c, t1, k1, a1, f1⟩ Q) o) (hE : Ex Hv Hv2) (hP : Pre ad ad2) (hkn : Ex k1 Hv2) (hka : Pre a1 ad2)
    (hW : ∀ x d H', W1 x d σ1 H' → W2 x d σ2 H') : Pst K ⟨c, t1, k2, a2, f2⟩ W2 σ2 Hv2 ad2 (RA K ⟨c, t1, k2, a2, f2⟩ Q) o := by
  cases o with
  | ok a S1 =>
    intro Hv' ad' H' e p s v r
    refine q Hv' ad' H' (hE.trans e) (hP.trans p) (s.re (hkn.trans e) (hka.trans p)) v ?_
    cases a with
    | val d => exact Rep.re r
    | loc n => exact r
    | fv k => exact absurd rfl (hnf k S1)
  | exc x ns vs S1 => exact fun Hv' ad' H' dd e p s xa => hW _ _ _ (q Hv' ad' H' dd (hE.trans e) (hP.trans p) (s.re (hkn.trans e) (hka.trans p)) xa.re)
  | bad => exact q
theorem noFv_ne {o : Out A} : ∀ k S', noFv o ≠ .ok (.fv k) S' := fun k S' z => by
  unfold noFv at z
  split at z
  · cases z
  · rename_i h
    exact h k S' z
theorem noFv_pst {cl : CL} {W : WX} {σ : St} {Q : VK} {o : Out A} (h : Pst K cl W σ Hv ad (RA K cl Q) (noFv o)) : Pst K cl W σ Hv ad (RA K cl Q) o := by
  unfold noFv at h
  split at h
  · exact h.elim
  · exact h
theorem kDef_ne {o : OutS} : ∀ k S', kDef S o ≠ .ok (.fv k) S' := fun k S' z => by
  unfold kDef at z
  split at z
  · cases z
  · cases z
  · split at z
    · cases z
    · split at z <;> cases z
  · cases z
  · cases z
end

section
variable {X : Cx} {pins : List (Addr × Obj)} {σ : St} {H : Hp} {s : Shared}
/-- a(), in the def that got the lambda; what it raises is wished for at that def's slots -/
theorem pe_actG {CXg : CXT} {Eg : XK} {Ng : List Str} {qg : Str} {sg : Scope} {g f c' : Addr} {cdg pm ctv : Value} {params : Arguments} {body : Expr} {scope : Scope} {k i : Nat} {a : Str} {pn : List (Addr × Obj)} {xe : Value → Shared → Prop} {W : WX} {tb : XK → TE} {p1 p2 : Pos}
    (I : Inv X pins σ H s) (L : LamX.LamS X.env.scope scope) (ho : s.heap.get? f = some (PySem.W.kla_obj "<lambda>" (X.env.qual ++ "<lambda>") params body scope (cloFrom X.env.cells scope.names []) pm c' ctv)) (hfn : H f = none) (hfr : f ∉ frs X.stack)
    (hbind : bindArgs (PySem.W.kla_fn "<lambda>" (X.env.qual ++ "<lambda>") params body scope (cloFrom X.env.cells scope.names []) pm (.ref c') ctv) ⟨[], []⟩ = pure [])
    (tk : Takes ((cxOf CXg X.prog X.w X.K X.mg X.base Ng qg sg g cdg X.A X.stack s H Eg).tr pn xe) W) (hr : Room (k + 1) (X.A.deeper (PyProof.Rows.envOfC qg sg s.heap.objs.size g cdg)))
    (hbody : ∀ (A : Around) (outer : List PySem.Env) (s : Shared) (H : Hp) (E : XK), Room k (A.deeper (LamX.lamEnv X scope s.heap.objs.size f c')) → A.guards = X.A.guards → PE (LamX.lamCx X A outer s H E scope f c') body (tb E))
    (hN : Ng[i]? = some a) (hv : Vis sg a) (hd : (a == ("__debug__" : Str)) = false) (hcd : (a == ("__classdict__" : Str)) = false) :
    PE ((cxOf CXg X.prog X.w X.K X.mg X.base Ng qg sg g cdg X.A X.stack s H Eg).tr pn xe) (.Call (.Name a p1) [] [] p2)
      (fun σZ HZ Q => σZ[i]? = some (some (.ref f)) ∧ HZ c' = some (LamX.CodeO c' (X.env.qual ++ "<lambda>")) ∧ tb (WE W σZ) σ HZ Q) := by
  constructor
  rintro pinsZ sZ σZ HZ Q IZ ⟨hs, hc, ht⟩
  refine wpAny_Call_Name_kw (thn ((pe_var (pos := p1) (i := i) hN hv hd hcd).run pinsZ sZ σZ HZ (fun v H1 => v = .ref f ∧ H1 = HZ) IZ ⟨.ref f, hs, rfl, rfl⟩) ?_)
  rintro u s1 ⟨v, H1, I1, r1, rfl, rfl⟩
  obtain rfl : u = Value.ref f := r1
  have still : s1.heap.get? f = some (PySem.W.kla_obj "<lambda>" (X.env.qual ++ "<lambda>") params body scope (cloFrom X.env.cells scope.names []) pm c' ctv) := I1.base.keep f _ ho hfn hfr (fun z => nomatch (show f ∈ ([] : List Addr) from z))
  refine PySem.W.callWith_F0 ⟨_, _, _, _, still⟩ ?_
  have un : Un (frs X.stack) [] H H1 s.heap s1.heap := I1.base
  obtain ⟨⟨oc, vs, t, hoc, hdc, hvc⟩, _, _⟩ := I1.hok c' _ hc
  have rc : codeAny (model X.prog X.w) (X.A.deeper (PyProof.Rows.envOfC qg sg s.heap.objs.size g cdg)) (.call (.ref f) ⟨[], []⟩) (CR (L2.CX X.prog X.w) (PyProof.Rows.envOfC qg sg s.heap.objs.size g cdg :: X.stack) X.prog X.w H1 s1 Q (WE W σZ)) s1 := by
    refine PySem.W.kla_callFunE hr.depth still rfl L.co L.gen rfl ⟨c', oc, vs, t, rfl, hoc, hdc, hvc⟩ ?_
    rw [hbind]
    refine wpAny_pure (wpAny_newFunctionEnv (fun y hy => (L.own y hy).2) (fun y hy => absurd hy (by simp)) (fun h1 hns hsb => ⟨I1.nolimit.fresh _ hsb, ?_⟩) L.kind)
    show codeAny _ _ (.expr body (LamX.lamEnv X scope s1.heap.objs.size f c')) _ _
    have kp : ∀ b o, s1.heap.get? b = some o → h1.get? b = some o := fun b o e => hsb.extBut b o (Nat.ne_of_lt (Heap.lt_size e)) (Heap.get?_push_of_some _ e)
    have J := LamX.lam_start2 (E := WE W σZ) (f := f) (c' := c') (tk := s1.toks + ([] : List (Str × Value)).length) I L I1.env0 hr.hd un hns kp
    refine PySem.W.kla_codeExpr (wpAny_mono ((hbody _ _ s1 H1 (WE W σZ) (hr.deeper _) rfl).run [] _ _ H1 Q J ht) (fun v s' hq => ?_) fun e s' hq => hq)
    obtain ⟨w', H', J', rv, q⟩ := hq
    exact ⟨w', H', J'.os, J'.bare, J'.base, J'.hok, rv, q⟩
  refine wpAny_call (codeAny_mono rc fun r s' hq => ?_)
  match r, hq with
  | .error e, hq => exact passAt tk σZ pinsZ H1 s1 e s' I1 hq
  | .ok (.ret u), hq => exact I1.after hq
end

/-- the def at g, which calls its parameter a: fb tells its body by what the call gives -/
def CallsIt (P : Program) (w : World) (K : PySem.W.Frag) (mg : Str → Option Value) (base : Heap) (cl : CL) (k : Nat) (x a : Str) (g : Addr) (sg : Scope) (Ng : List Str) (bg : List Stmt) (fb : (Store → Out A) → Sv) : Prop :=
  ∀ (kn : Hp) (ka fvs : List Addr) (th : Store → Out A) (cdv : Value) (A : Around) (outer : List PySem.Env) (s : Shared) (H : Hp) (E : XK), Room k (A.deeper (PyProof.Rows.envOfC x sg s.heap.objs.size g cdv)) →
    Bx (cxOf (L2.CX P w) P w K mg base Ng x sg g cdv A outer s H E) (fun c d _ H' => E c d H') →
    (∀ (p1 p2 : Pos) (pn : List (Addr × Obj)) (xe : Value → Shared → Prop) (W' : WX), Bx ((cxOf (L2.CX P w) P w K mg base Ng x sg g cdv A outer s H E).tr pn xe) W' →
      SE ((cxOf (L2.CX P w) P w K mg base Ng x sg g cdv A outer s H E).tr pn xe) (cl.lam kn ka fvs) W' (.Call (.Name a p1) [] [] p2) (eThk 0 th)) →
    SSs (cxOf (L2.CX P w) P w K mg base Ng x sg g cdv A outer s H E) (cl.lam kn ka fvs) (fun c d _ H' => E c d H') bg (fb th)
section
variable {X : Cx} {cl : CL} {W : WX} {x a : Str} {g c P : Addr} {k : Nat} {pg : Arguments} {bg : List Stmt} {sg : Scope} {Ng : List Str} {fdg : FuncData} {params : Arguments} {body : Expr} {scope : Scope} {p lpos pos : Pos} {fb : (Store → Out A) → Sv} {fE : Ev A}
theorem StOk.extN {K : PySem.W.Frag} {Hv H H1 : Hp} {S : Store} {ad : List Addr} (so : StOk K cl Hv H S ad) (e : LamX.ExtN H H1) (t : LamX.Tabs cl.tabs H1) : StOk K cl Hv H1 S ad := by
  refine ⟨fun b o h => e b o (so.ex b o h) fun ps z => so.tn b ps (by rw [h, z]), so.len, fun n x q => ?_, so.inj, so.sm, t, so.tn, so.kn, so.ka⟩
  obtain ⟨a, h1, h2, h3⟩ := so.at_ n x q
  obtain ⟨o, ho, hk⟩ := h3.kind
  exact ⟨a, h1, h2, h3.heap (by rw [ho]; exact e a o ho fun ps z => by subst z; exact hk)⟩
theorem se_lam (Fg : FunD X.K x x pg bg sg [] [] g fdg) (hbn : Binds X.K fdg [a] []) (Sg : FnScope Ng [a] sg) (hNg : Ng[0]? = some a) (hva : Vis sg a) (B : Bx X W) (hm : X.mg x = some (.ref g))
    (TB : LamX.TabB X.base X.mg c P) (hcode : X.env.code = .ref c) (hmT : (P, X.env.qual ++ "<lambda>") ∈ cl.tabs) (hu : ∀ p ∈ cl.tabs, p.1 = P → p.2 = X.env.qual ++ "<lambda>") (hr : Room (k + 2) X.A) (L : LamX.LamS X.env.scope scope) (hdef : defaultsOf params X.env = ([], []))
    (hbind : ∀ (q : Str) (cl : List (Str × Addr)) (pm cv ctv : Value), bindArgs (PySem.W.kla_fn "<lambda>" q params body scope cl pm cv ctv) ⟨[], []⟩ = pure [])
    (hG : CallsIt X.prog X.w X.K X.mg X.base cl (k + 1) x a g sg Ng bg fb)
    (hbody : ∀ (A : Around) (outer : List PySem.Env) (s : Shared) (H : Hp) (E : XK) (f c' : Addr), Room k (A.deeper (LamX.lamEnv X scope s.heap.objs.size f c')) → Bx (LamX.lamCx X A outer s H E scope f c') (fun c d _ H' => E c d H') →
      SE (LamX.lamCx X A outer s H E scope f c') cl (fun c d _ H' => E c d H') body fE) (hg : Gl X x := by rfl)
    (hdb : (x == ("__debug__" : Str)) = false := by decide) (hd : (a == ("__debug__" : Str)) = false := by decide) (hcd : (a == ("__classdict__" : Str)) = false := by decide) :
    SE X cl W (.Call (.Name x p) [.Lambda params body scope lpos] [] pos) (eLam Ng.length fb fE) := by
  refine ⟨cE X.K cl W (eLam Ng.length fb fE), ⟨fun pins s σ H Q I z => ?_⟩, fun σ Hv H S ad env Q re so q => ⟨Hv, S, ad, env, re, so, q⟩⟩
  obtain ⟨Hv, S, ad, env, re, so, q⟩ := z
  obtain ⟨oc, od, dV, kV, doc, pm, an, cdv, ct, osl, rfl, lk, hcg, _, _⟩ := Fg.ex
  refine wpAny_Call_Name_kw (ld_glob I hg hm ?_ hdb)
  refine PySem.W.callWith_K (h₀ := X.base) I.ok.mod.kin Fg.kp ?_ (by rfl) (by rfl)
  show wpAny _ _ (spliced ((false, eval (.Lambda params body scope lpos) X.env) :: backTo pos (starEach [] X.env))) _ _ s
  refine Calls.spliced_cons (LamX.lam_make2 (T := cl.tabs) I TB hcode hmT hu so.tb hdef (L.has I.ok) fun f c' pm' ctv H1 s' I1 eN T1 hf hfn hfr hco => Calls.spliced_nil ⟨I1.kIn, ?_⟩)
  have so1 : StOk X.K cl Hv H1 S ad := so.extN eN T1
  obtain ⟨so2, e2⟩ := so1.see hco (fun z => z) (fun ps z => LamX.codeO_ne ps z)
  generalize hHv2 : upd Hv c' (LamX.CodeO c' (X.env.qual ++ "<lambda>")) = Hv2 at so2 e2
  have hc2 : Hv2 c' = some (LamX.CodeO c' (X.env.qual ++ "<lambda>")) := by rw [← hHv2, upd_same]
  have so3 : StOk X.K (cl.lam Hv2 ad [f]) Hv2 H1 S ad := so2.re (Ex.refl _) (Pre.refl _)
  have re2 := re.mono e2 (Pre.refl ad)
  have rc : codeAny (model X.prog X.w) X.A (.call (.ref g) ⟨[.ref f], []⟩) (CR (L2.CX X.prog X.w) X.stack X.prog X.w H1 s' Q (WE W σ)) s' := by
    refine LamX.run_ofS (N := Ng) (ps := [a]) (us := [.ref f]) (vs := [.ref f]) lk hcg Sg hr I1.env0 (hbn s' [.ref f] I1.kIn rfl) (.cons rfl .nil) rfl fun hr' => ?_
    have hS := hG Hv2 ad [f] (fun S' => noFv (fE env S')) cdv X.A X.stack s' H1 (WE W σ) hr' ⟨takes_of rfl rfl rfl rfl, passes_of rfl, B.gd⟩ (fun p1 p2 pn xe W' B' => by
      refine ⟨_, pe_actG (i := 0) (tb := fun E => cE X.K cl (fun c d _ H' => E c d H') fE) I1 L hf hfn hfr (hbind _ _ _ _ _) B'.tk hr' (fun A outer s H E hr2 hgd => ((hbody A outer s H E f c' hr2 ⟨takes_of rfl rfl rfl rfl, passes_of rfl, hgd.trans B.gd⟩).can)) hNg hva hd hcd, fun σZ HvZ HZ SZ adZ envZ QZ reZ soZ qZ => ?_⟩
      unfold eThk at qZ
      split at qZ
      · rename_i e0
        obtain ⟨v0, h1, b, rfl, h2⟩ := reZ.at_ 0 _ e0
        cases h2
        refine ⟨h1, soZ.ex _ _ (soZ.kn _ _ hc2), HvZ, SZ, adZ, env, re2.mono soZ.kn soZ.ka, StOk.re (k2 := cl.kn) (a2 := cl.ka) (f2 := cl.fvs) soZ (so.kn.trans (e2.trans soZ.kn)) (so.ka.trans soZ.ka), ?_⟩
        exact noFv_pst (Pst.re noFv_ne qZ (Ex.refl _) (Pre.refl _) soZ.kn soZ.ka fun _ _ _ z => z)
      · exact qZ.elim)
    obtain ⟨t, pt, rt⟩ := hS.ex
    refine ⟨t, pt, rt _ Hv2 H1 S ad (startE Ng.length [.fv 0]) _ ?_ so3 (def_pst so3 ?_)⟩
    · exact start_rep (.cons ⟨f, rfl, rfl⟩ .nil)
    · exact Pst.re (t1 := cl.tabs) (k1 := cl.kn) (a1 := cl.ka) (f1 := cl.fvs) kDef_ne q e2 (Pre.refl _) (so.kn.trans e2) so.ka fun _ _ _ z => z
  refine wpAny_call (codeAny_mono rc fun r s2 hq => ?_)
  match r, hq with
  | .error e, hq => exact passAt B.tk σ pins H1 s' e s2 I1 hq
  | .ok (.ret u), hq => exact I1.after hq
end
end R


namespace R
open PySem L2

/-! ### what is called, by what it makes of its positional arguments -/
structure FnP (P : Program) (w : World) (K : PySem.W.Frag) (mg : Str → Option Value) (base : Heap) (k : Nat) (f : Addr) (sp : Sp) : Prop where
  run : ∀ (A : Around) (outer : List PySem.Env) (s : Shared) (H : Hp) (us : List Value) (vs : List V) (Q : VK) (E : XK), A.guards = some [] → Room k A → Env0 P w K mg base A outer s H → Vals vs us → sp vs H Q E →
    codeAny (model P w) A (.call (.ref f) ⟨us, []⟩) (CR (L2.CX P w) outer P w H s Q E) s
/-- told by an evaluator -/
def SpV (K : PySem.W.Frag) (cl : CL) (g : List A → Store → Out A) : Sp := fun vs H Q E => ∃ Hv S ad as, RepAs K cl Hv ad vs as ∧ StOk K cl Hv H S ad ∧ Pst K cl (fun c d _ H' => E c d H') [] Hv ad (RA K cl Q) (g as S)
structure FnV (P : Program) (w : World) (K : PySem.W.Frag) (mg : Str → Option Value) (base : Heap) (cl : CL) (k : Nat) (f : Addr) (g : List A → Store → Out A) : Prop where
  kp : PySem.W.keepIn K (.ref f) = true
  fn : FnP P w K mg base k f (SpV K cl g)
section
variable {P : Program} {w : World} {K : PySem.W.Frag} {mg : Str → Option Value} {base : Heap} {cl : CL} {k : Nat} {f : Addr} {ps : List Str} {g : List A → Store → Out A}
theorem FnR.v (h : FnR P w K mg base cl k f ps g) : FnV P w K mg base cl k f (callG ps.length g []) := by
  obtain ⟨fd, hb, kp, F⟩ := h.ex
  refine ⟨kp, ⟨fun A outer s H us vs Q E gd hr e0 r sp => ?_⟩⟩
  obtain ⟨Hv, S, ad, as, rs, so, q⟩ := sp
  unfold callG at q
  rw [List.append_nil] at q
  split at q
  · rename_i hn
    have hl : us.length = ps.length := by rw [← r.length, rs.length, hn]
    have KX : K.In s.heap := e0.mod.kin.keeps fun b o e => (e0.bs b o e).1
    have b := hb s us KX (by rw [List.append_nil]; exact hl)
    rw [List.append_nil] at b
    exact F.run A outer s H ⟨us, []⟩ us vs Q E gd hr e0 b r ⟨by rw [rs.length]; exact hn, Hv, S, ad, as, rs, so, q⟩
  · exact q.elim
end
section
variable {X : Cx} {cl : CL} {W : WX} {k : Nat} {f : Addr} {g : List A → Store → Out A}
/-- it runs, called from X -/
theorem run_fnV {pins : List (Addr × Obj)} {σ : St} {H : Hp} {s : Shared} {Q : VK} {us : List Value} {vs : List V} {sp : Sp} (F : FnP X.prog X.w X.K X.mg X.base k f sp) (B : Bx X W) (hr : Room k X.A) (I : Inv X pins σ H s) (r : Vals vs us) (h : sp vs H Q (WE W σ)) :
    wpAny (model X.prog X.w) X.A (call (.ref f) us) (EP X pins σ Q) X.xe s := by
  refine wpAny_call (codeAny_mono (F.run X.A X.stack s H us vs Q (WE W σ) B.gd hr I.env0 r h) fun z s' hq => ?_)
  match z, hq with
  | .error e, hq => exact passAt B.tk σ pins H s e s' I hq
  | .ok (.ret u), hq => exact I.after hq
/-- its promise, from what is wished of the evaluator -/
theorem spV_of {σ : St} {Hv H : Hp} {S : Store} {ad : List Addr} {vs : List V} {as : List A} {Q : VK} (so : StOk X.K cl Hv H S ad) (r : RepAs X.K cl Hv ad vs as) (q : Pst X.K cl W σ Hv ad (RA X.K cl Q) (g as S)) : SpV X.K cl g vs H Q (WE W σ) := by
  refine ⟨Hv, S, ad, as, r, so, ?_⟩
  cases e : g as S with
  | ok a S1 =>
    rw [e] at q
    exact q
  | exc c ns ds S1 =>
    rw [e] at q
    exact q
  | bad =>
    rw [e] at q
    exact q
end
end R


namespace R
open PySem L2
/-! ### def f(a, .., *v) -/
/-- n parameters ahead; what is left over is a tuple -/
def starG (n : Nat) (g : List A → Store → Out A) (as : List A) (S : Store) : Out A := match vals? (as.drop n) with
  | some ds => if n ≤ as.length ∧ ds.length ≤ 100000 then g (as.take n ++ [.val (.tup ds)]) S else .bad
  | none => .bad
theorem RepAs.cut {K : PySem.W.Frag} {cl : CL} {Hv : Hp} {ad : List Addr} : ∀ (n : Nat) {vs : List V} {as : List A}, RepAs K cl Hv ad vs as → RepAs K cl Hv ad (vs.take n) (as.take n) ∧ RepAs K cl Hv ad (vs.drop n) (as.drop n)
  | 0, _, _, r => ⟨.nil, r⟩
  | _ + 1, _, _, .nil => ⟨.nil, .nil⟩
  | n + 1, _, _, .cons a b => ⟨.cons a (RepAs.cut n b).1, (RepAs.cut n b).2⟩
section
variable {P : Program} {w : World} {K : PySem.W.Frag} {mg : Str → Option Value} {base : Heap} {cl : CL} {k : Nat} {f : Addr} {x qual : Str} {params : Arguments} {body : List Stmt} {scope : Scope} {fd : FuncData} {N ps : List Str} {pv : Str} {fb : Sv}
theorem fnV_star (F : FunD K x qual params body scope [] [] f fd) (S : FnScope N (ps ++ [pv]) scope)
    (hbn : ∀ (kV doc pm : Value) (an : Option Addr) (cdv ct : Value) (us rest : List Value), us.length = ps.length → bindArgs (PySem.W.fnOf x qual params body scope .none kV doc pm an cdv ct) ⟨us ++ rest, []⟩ = (newTuple rest >>= fun t => pure (ps.zip us ++ [(pv, t)])))
    (hb : ∀ (cdv : Value) (A : Around) (outer : List PySem.Env) (s : Shared) (H : Hp) (E : XK), Room k (A.deeper (PyProof.Rows.envOfC qual scope s.heap.objs.size f cdv)) → Bx (cxOf (L2.CX P w) P w K mg base N qual scope f cdv A outer s H E) (fun c d _ H' => E c d H') →
      SSs (cxOf (L2.CX P w) P w K mg base N qual scope f cdv A outer s H E) cl (fun c d _ H' => E c d H') body fb) :
    FnV P w K mg base cl (k + 1) f (starG ps.length (defF N.length fb)) := by
  refine ⟨F.kp, ⟨fun A outer s H us vs Q E gd hr e0 r sp => ?_⟩⟩
  obtain ⟨oc, od, dV, kV, doc, pm, an, cdv, ct, osl, rfl, lk, hcd, hD, _⟩ := F.ex
  obtain ⟨_, rfl⟩ : _ ∧ dV = .none := hD.elim id fun z => absurd rfl z.1
  obtain ⟨Hv, St, ad, as, rs, so, q⟩ := sp
  unfold starG at q
  split at q
  · rename_i ds ed
    split at q
    · rename_i hn
      obtain ⟨r1, r2⟩ := rs.cut ps.length
      have rd := vals_rep r2 ed
      have lv : vs.length = as.length := rs.length
      have lw : (vs.take ps.length).length = ps.length := by rw [List.length_take]; omega
      have lu : us.length = vs.length := r.length.symm
      have ev : vs.take ps.length ++ vs.drop ps.length = vs := List.take_append_drop _ _
      obtain ⟨u1, u2, rfl, q1, q2⟩ := StX.vals_split (by rw [ev]; exact r : Vals (vs.take ps.length ++ vs.drop ps.length) us)
      have l1 : u1.length = ps.length := by rw [← q1.length]; exact lw
      have lz : (vs.drop ps.length).length ≤ sizeLine := by rw [rd.length]; exact sz_of hn.2
      have l2 : u2.length ≤ sizeLine := by rw [← q2.length]; exact lz
      have nw : H s.heap.objs.size = none := e0.hok.fresh (Nat.le_refl _)
      refine StX.run_bnd lk hcd S hr e0 (G := fun xs H2 => ∃ p, H p = none ∧ xs = vs.take ps.length ++ [V.ref p] ∧ H2 = upd H p (.tup (vs.drop ps.length))) (fun A' Ex Q' h => ?_) fun s2 H2 xs hx hr' => ?_
      · rw [hbn kV doc pm an cdv ct u1 u2 l1]
        refine wpAny_bind (wpAny_newTuple (wpAny_pure ?_) l2)
        have made : ObjOk P w (upd H s.heap.objs.size (.tup (vs.drop ps.length))) (s.heap.push ({ cls := .type "tuple", data := .seq u2.toArray } : Obj)) s.heap.objs.size (.tup (vs.drop ps.length)) := ⟨lz, u2, q2, ⟨_, Heap.get?_push_size _ rfl, rfl, _, rfl⟩⟩
        have un := StX.un_laid (fs := frs outer) (s := s) (o := ({ cls := .type "tuple", data := .seq u2.toArray } : Obj)) (u := .tup (vs.drop ps.length)) nw
        have z := h _ _ (vs.take ps.length ++ [V.ref s.heap.objs.size]) (u1 ++ [Value.ref s.heap.objs.size]) (StX.env0_laid e0 made) un rfl (fun e s' => StX.cxUp outer s H _ _ E e s' un (fun b o z => Heap.get?_push_of_some _ z) rfl) (q1.append (.cons rfl .nil)) (by rw [List.length_append, List.length_append, lw]; rfl) ⟨_, nw, rfl, rfl⟩
        rw [List.zip_append l1.symm] at z
        exact z
      · obtain ⟨p, hp, rfl, rfl⟩ := hx
        obtain ⟨t, pt, rt⟩ := (hb cdv A outer s2 _ E hr' ⟨takes_of rfl rfl rfl rfl, passes_of rfl, gd⟩).ex
        have s3 := so.new (o := .tup (vs.drop ps.length)) hp
        have ex3 : R.Ex Hv (upd Hv p (.tup (vs.drop ps.length))) := Ex.new (so.ex.nn hp)
        have rp : RepA K cl (upd Hv p (.tup (vs.drop ps.length))) ad (.ref p) (.val (.tup ds)) := Rep.tup (.inl (.inl upd_same)) (rd.mono ex3)
        have q3 : Pst K cl (fun c d _ H' => E c d H') [] (upd Hv p (.tup (vs.drop ps.length))) ad (RA K cl Q) (kDef St (fb (startE N.length (as.take ps.length ++ [.val (.tup ds)])) St)) := Pst.up ex3 (Pre.refl _) q
        refine ⟨t, pt, rt _ _ _ St ad (startE N.length (as.take ps.length ++ [R.A.val (R.D.tup ds)])) _ (start_rep ((r1.mono ex3 (Pre.refl _)).append (.cons rp .nil))) s3 (def_pst s3 q3)⟩
    · exact q.elim
  · exact q.elim
end
end R


namespace R
open PySem L2
/-! ### C(e, ..) of an own class -/
/-- behind __init__: the new instance is frozen | stays a place -/
def kMade (n : Nat) (r : A) (S : Store) : Out A := match r, S[n]? with
  | .val .non, some (some (.ins c ns vs)) => .ok (.val (.obj c ns vs)) (S.take n)
  | _, _ => .bad
def kMake (c : Nat) (gI : List A → Store → Out A) (as : List A) (S : Store) : Out A := (gI (.loc S.length :: as) (S ++ [some (.ins c [] [])])).bind (kMade S.length)
section
variable {X : Cx} {cl : CL} {W : WX} {k : Nat} {C fI : Addr} {gI : List A → Store → Out A} {sp : Sp}
theorem run_makeV {pins : List (Addr × Obj)} {σ : St} {H : Hp} {s : Shared} {Q : VK} {us : List Value} {vs : List V} (M : Mk X.K C fI) (F : FnP X.prog X.w X.K X.mg X.base k fI sp) (B : Bx X W) (hr : Room (k + 1) X.A) (I : Inv X pins σ H s) (r : Vals vs us)
    (h : ∀ x dx, H x = none → H dx = none → dx ≠ x → sp (.ref x :: vs) (upd (upd H dx (.own x)) x (.ins C dx [])) (fun v H2 => v = .non ∧ Q (.ref x) H2) (WE W σ)) :
    wpAny (model X.prog X.w) X.A (call (.ref C) us) (EP X pins σ Q) X.xe s := by
  have hq := h (s.heap.objs.size + 1) s.heap.objs.size (I.hok.fresh (Nat.le_succ _)) (I.hok.fresh (Nat.le_refl _)) (Nat.ne_of_lt (Nat.lt_succ_self _))
  have I2 := Inv.made (C := C) I
  have r2 : Vals (V.ref (s.heap.objs.size + 1) :: vs) (Value.ref (s.heap.objs.size + 1) :: us) := .cons rfl r
  refine wpAny_call (make_map (f := fI) I.kIn M.makes M.init (beq_iff_eq.mp M.fn) (codeAny_mono (F.run _ X.stack _ _ (Value.ref (s.heap.objs.size + 1) :: us) _ _ (WE W σ) B.gd (hr.make C us []) (I2.env0.make C us []) r2 hq) fun z s' hq' => ?_))
  match z, hq' with
  | .error e, hq' => exact passAt B.tk σ pins _ _ e s' I2 hq'
  | .ok (.ret u), hq' =>
    obtain ⟨v, H', I3, rv, rfl, q3⟩ := I2.after hq'
    exact ⟨rv, V.ref (s.heap.objs.size + 1), H', I3, rfl, q3⟩
/-- what stands behind __init__ -/
theorem made_end {c : Nat} {σ : St} {Hv H : Hp} {S : Store} {ad : List Addr} {vs : List V} {as : List A} {Q : VK} {x dx : Addr} (so : StOk X.K cl Hv H S ad) (rs : RepAs X.K cl Hv ad vs as) (hx : H x = none) (hdx : H dx = none) (hne : dx ≠ x)
    (q : Pst X.K cl W σ Hv ad (RA X.K cl Q) (kMake c gI as S)) : SpV X.K cl gI (.ref x :: vs) (upd (upd H dx (.own x)) x (.ins (cl c) dx [])) (fun v H2 => v = .non ∧ Q (.ref x) H2) (WE W σ) := by
  have s1 := so.hid (o := .own x) hdx
  have hx1 : upd H dx (.own x) x = none := by rw [upd_ne (Ne.symm hne)]; exact hx
  have s2 := s1.alloc (o := .ins (cl c) dx []) (c := .ins c [] []) hx1 ⟨dx, [], upd_same, rfl, .nil⟩
  have pre : Pre ad (ad ++ [x]) := ⟨[x], rfl⟩
  have hat : (ad ++ [x])[S.length]? = some x := by rw [← so.len]; simp
  have rx : RepA X.K cl Hv (ad ++ [x]) (.ref x) (.loc S.length) := ⟨x, rfl, hat⟩
  refine spV_of (W := W) (σ := σ) s2 (.cons rx (rs.mono (Ex.refl _) pre)) ?_
  have q1 : Pst X.K cl W σ Hv (ad ++ [x]) (fun a S' Hv' _ _ => Pst X.K cl W σ Hv' ad (RA X.K cl Q) (kMade S.length a S')) (gI (.loc S.length :: as) (S ++ [some (.ins c [] [])])) := Pst.up (Ex.refl _) pre (Pst.bindK q)
  refine q1.mono fun a S1 Hv1 ad1 H1 e1 p1 s3 q2 v rv => ?_
  unfold kMade at q2
  split at q2
  · rename_i c' ns ds es
    cases rv
    have hat1 := p1.get hat
    obtain ⟨x', h1, h2, h3⟩ := s3.at_ _ _ es
    rw [hat1] at h1
    cases h1
    obtain ⟨o, ho⟩ := h3.thing
    have s5 := (s3.freeze es hat1 ho).take S.length (so.len ▸ so.ka.len)
    have ead : ad1.take S.length = ad := (pre.trans p1).take so.len
    have eS : (S1.set S.length none).take S.length = S1.take S.length := by rw [List.take_set_of_le (Nat.le_refl _)]
    rw [ead, eS] at s5
    exact ⟨rfl, q2 _ ad H1 (Ex.new h2) (Pre.refl _) s5 (.ref x) (h3.rep h2 ho rfl)⟩
  · exact q2.elim
end
/-- an own class: its __init__ by an evaluator -/
structure ObR (P : Program) (w : World) (K : PySem.W.Frag) (mg : Str → Option Value) (base : Heap) (cl : CL) (k c : Nat) (gI : List A → Store → Out A) : Prop where
  ex : ∃ fI, Mk K (cl c) fI ∧ FnP P w K mg base k fI (SpV K cl gI)
section
variable {X : Cx} {cl : CL} {W : WX} {k c : Nat} {gI : List A → Store → Out A} {x : Str} {p pos : Pos} {e : Expr} {es : List Expr} {f : Ev (List A)}
theorem se_make (F : ObR X.prog X.w X.K X.mg X.base cl k c gI) (B : Bx X W) (hr : Room (k + 1) X.A) (hm : X.mg x = some (.ref (cl c))) (ha : SA X cl W (e :: es) f) (hg : Gl X x := by rfl) (hdb : (x == ("__debug__" : Str)) = false := by decide)
    (he : starEach (e :: es) X.env = (false, eval e X.env) :: starEach es X.env := by rfl) (hpl : (backTo pos (starEach es X.env)).any (·.1) = false := by rfl) : SE X cl W (.Call (.Name x p) (e :: es) [] pos) (eApp (kMake c gI) f) := by
  obtain ⟨fI, M, F⟩ := F.ex
  obtain ⟨ta, pa, ra⟩ := ha.ex
  refine ⟨fun σ H Q => ta σ H fun vs H1 => ∀ y dx, H1 y = none → H1 dx = none → dx ≠ y → SpV X.K cl gI (.ref y :: vs) (upd (upd H1 dx (.own y)) y (.ins (cl c) dx [])) (fun v H2 => v = .non ∧ Q (.ref y) H2) (WE W σ), ⟨fun pins s σ H Q I h => ?_⟩, fun σ Hv H S ad env Q re so q => ?_⟩
  · refine wpAny_Call_Name_kw (ld_glob I hg hm ?_ hdb)
    refine PySem.W.callWith_K (h₀ := X.base) I.ok.mod.kin M.kp (thn (pa.run pos pins s σ H _ I h) fun us s1 ⟨vs, H1, I1, r, q⟩ => ⟨I1.kIn, ?_⟩) he hpl
    exact run_makeV M F B hr I1 r q
  · exact ra σ Hv H S ad env _ re so (q.bind.mono fun as S1 Hv1 ad1 H1 e1 p1 s1 q1 vs r1 y dx hy hdx hne => made_end s1 r1 hy hdx hne q1)
theorem se_make0 (F : ObR X.prog X.w X.K X.mg X.base cl k c gI) (B : Bx X W) (hr : Room (k + 1) X.A) (hm : X.mg x = some (.ref (cl c))) (hg : Gl X x := by rfl) (hdb : (x == ("__debug__" : Str)) = false := by decide) : SE X cl W (.Call (.Name x p) [] [] pos) (eApp (kMake c gI) eNil) := by
  obtain ⟨fI, M, F⟩ := F.ex
  refine ⟨fun σ H Q => ∀ y dx, H y = none → H dx = none → dx ≠ y → SpV X.K cl gI [.ref y] (upd (upd H dx (.own y)) y (.ins (cl c) dx [])) (fun v H2 => v = .non ∧ Q (.ref y) H2) (WE W σ), ⟨fun pins s σ H Q I h => ?_⟩, fun σ Hv H S ad env Q re so q y dx hy hdx hne => made_end so .nil hy hdx hne q⟩
  refine wpAny_Call_Name_kw (ld_glob I hg hm ?_ hdb)
  exact PySem.W.callWith_K0 I.kIn M.kp (run_makeV (us := []) (vs := []) M F B hr I .nil h)
end

/-! ### o.m(e, ..), o frozen or a place; the class is looked up -/
structure MtR (P : Program) (w : World) (K : PySem.W.Frag) (mg : Str → Option Value) (base : Heap) (cl : CL) (k c : Nat) (m : Str) (g : List A → Store → Out A) : Prop where
  ex : ∃ f, Cls K (cl c) ∧ Meth K (cl c) m f ∧ FnP P w K mg base k f (SpV K cl g)
/-- the class and fields of what is an instance -/
def objA (S : Store) : A → Option (Nat × List Str)
  | .val (.obj c ns _) => some (c, ns)
  | .loc n => match S[n]? with
    | some (some (.ins c ns _)) => some (c, ns)
    | _ => none
  | _ => none
theorem obj_at {K : PySem.W.Frag} {cl : CL} {Hv H : Hp} {S : Store} {ad : List Addr} {v : V} {a : A} {c : Nat} {ns : List Str} (so : StOk K cl Hv H S ad) (r : RepA K cl Hv ad v a) (h : objA S a = some (c, ns)) :
    ∃ x dx fs, v = .ref x ∧ H x = some (.ins (cl c) dx fs) ∧ fs.map (·.1) = ns := by
  cases a with
  | val d =>
    cases d <;> first
      | (cases h; cases r with | obj h1 h2 h3 => exact ⟨_, _, _, rfl, so.ex _ _ h1, h2⟩)
      | cases h
  | fv k => cases h
  | loc n =>
    obtain ⟨x, rfl, hx⟩ := r
    unfold objA at h
    dsimp only at h
    split at h
    · rename_i c' ns' vs e
      cases h
      obtain ⟨x', h1, _, dx, fs, h3, h4, _⟩ := so.at_ n _ e
      rw [hx] at h1
      cases h1
      exact ⟨x, dx, fs, rfl, h3, h4⟩
    · cases h
theorem noField {fs : List (Str × V)} {m : Str} (h : m ∉ fs.map (·.1)) : fs.lookup m = none := by
  induction fs with
  | nil => rfl
  | cons p r ih =>
    have h1 : ¬ m = p.1 := fun z => h (by simp [z])
    have h2 : m ∉ r.map (·.1) := fun z => h (by simp only [List.map_cons, List.mem_cons]; exact .inr z)
    show (match m == p.1 with | true => some p.2 | false => r.lookup m) = none
    rw [beq_eq_false_iff_ne.mpr h1]
    exact ih h2
/-- one class's method -/
def eMeth (c : Nat) (m : Str) (g : List A → Store → Out A) (fo : Ev A) (fa : Ev (List A)) : Ev A := fun env S => (fo env S).bind fun o S1 => match objA S1 o with
  | some (c', ns) => if c' = c ∧ m ∉ ns then (fa env S1).bind fun as S2 => g (o :: as) S2 else .bad
  | none => .bad
section
variable {X : Cx} {cl : CL} {W : WX} {k c : Nat} {m : Str} {g : List A → Store → Out A} {o : Expr} {pos apos : Pos} {e : Expr} {es : List Expr} {fo : Ev A} {fa : Ev (List A)}
theorem se_meth {pl : Sem Bool} (F : MtR X.prog X.w X.K X.mg X.base cl k c m g) (B : Bx X W) (hr : Room k X.A) (ho : SE X cl W o fo) (ha : SA X cl W (e :: es) fa)
    (hst : starEach (e :: es) X.env = (false, eval e X.env) :: starEach es X.env := by rfl) (hpl : (backTo pos (starEach es X.env)).any (·.1) = false := by rfl)
    (ht : eval (.Call (.Attribute o m apos) (e :: es) [] pos) X.env = (do
      let ov ← eval o X.env
      standAt apos.atName
      let (f, first) ← holding [ov] (getMethod ov m pl)
      callWith pos f first (backTo pos (starEach (e :: es) X.env)) (backToKw pos (keywordEach [] X.env))) := by rfl) :
    SE X cl W (.Call (.Attribute o m apos) (e :: es) [] pos) (eMeth c m g fo fa) := by
  obtain ⟨f, hc, hm, F⟩ := F.ex
  obtain ⟨to, po, ro⟩ := ho.ex
  obtain ⟨ta, pa, ra⟩ := ha.ex
  refine ⟨fun σ H Q => to σ H fun x H1 => ∃ a dx fs, x = .ref a ∧ H1 a = some (.ins (cl c) dx fs) ∧ fs.lookup m = none ∧ ta σ H1 fun vs H2 => SpV X.K cl g (x :: vs) H2 Q (WE W σ), ⟨fun pins s σ H Q I h => ?_⟩, fun σ Hv H S ad env Q re so q => ?_⟩
  · refine PySem.W.methodCall_KW (pl := pl) (thn (po.run pins s σ H _ I h) fun u s1 hu => ?_) ht
    obtain ⟨x, H1, I1, rx, a, dx, fs, rfl, ea, l, q⟩ := hu
    obtain rfl : u = Value.ref a := rx
    refine getmeth_ok I1 ea hc hm l ?_
    refine PySem.W.callWith_K (first := [.ref a]) (h₀ := X.base) I.ok.mod.kin hm.kp (thn (pa.run pos pins s1 σ H1 _ I1 q) fun us s2 ⟨vs, H2, I2, r, q2⟩ => ⟨I2.kIn, ?_⟩) hst hpl
    exact run_fnV (us := .ref a :: us) (vs := .ref a :: vs) F B hr I2 (.cons rfl r) q2
  · refine ro σ Hv H S ad env _ re so (Pst.mono (Pst.bind q) fun z S1 Hv1 ad1 H1 e1 p1 s1 q1 v1 r1 => ?_)
    split at q1
    · rename_i c' ns eo
      split at q1
      · rename_i hcn
        obtain ⟨rfl, hn⟩ := hcn
        obtain ⟨a, dx, fs, rfl, h1, rfl⟩ := obj_at s1 r1 eo
        refine ⟨a, dx, fs, rfl, h1, noField hn, ?_⟩
        exact ra σ Hv1 H1 S1 ad1 env _ (re.mono e1 p1) s1 (q1.bind.mono fun as S2 Hv2 ad2 H2 e2 p2 s2 q2 vs r2 => spV_of s2 (.cons (r1.mono e2 p2) r2) q2)
      · exact q1.elim
    · exact q1.elim
end
end R


namespace R
open PySem L2
/-! ### operations told by evaluators, at the very slots -/
def OpV (X : Cx) (cl : CL) (W : WX) (f : Value → Value → Sem Value) (h : A → A → Store → Out A) : Prop :=
  ∀ (pins : List (Addr × Obj)) (s : Shared) (σ : St) (Hv H : Hp) (S : Store) (ad : List Addr) (x y : V) (v u : Value) (a b : A) (Q : VK), Inv X pins σ H s → RelV x v → RelV y u → StOk X.K cl Hv H S ad → RepA X.K cl Hv ad x a → RepA X.K cl Hv ad y b →
    Pst X.K cl W σ Hv ad (RA X.K cl Q) (h a b S) → wpAny (model X.prog X.w) X.A (f v u) (EP X pins σ Q) X.xe s
def UnV (X : Cx) (cl : CL) (W : WX) (f : Value → Sem Value) (h : A → Store → Out A) : Prop :=
  ∀ (pins : List (Addr × Obj)) (s : Shared) (σ : St) (Hv H : Hp) (S : Store) (ad : List Addr) (x : V) (v : Value) (a : A) (Q : VK), Inv X pins σ H s → RelV x v → StOk X.K cl Hv H S ad → RepA X.K cl Hv ad x a →
    Pst X.K cl W σ Hv ad (RA X.K cl Q) (h a S) → wpAny (model X.prog X.w) X.A (f v) (EP X pins σ Q) X.xe s
def CallV (X : Cx) (cl : CL) (W : WX) (f : Value) (h : List A → Store → Out A) : Prop :=
  ∀ (pins : List (Addr × Obj)) (s : Shared) (σ : St) (Hv H : Hp) (S : Store) (ad : List Addr) (xs : List V) (us : List Value) (as : List A) (Q : VK), Inv X pins σ H s → Vals xs us → StOk X.K cl Hv H S ad → RepAs X.K cl Hv ad xs as →
    Pst X.K cl W σ Hv ad (RA X.K cl Q) (h as S) → wpAny (model X.prog X.w) X.A (call f us) (EP X pins σ Q) X.xe s
/-- the first that tells anything -/
def orH2 (h1 h2 : A → A → Store → Out A) (a b : A) (S : Store) : Out A := match h1 a b S with
  | .bad => h2 a b S
  | o => o
def orH1 (h1 h2 : A → Store → Out A) (a : A) (S : Store) : Out A := match h1 a S with
  | .bad => h2 a S
  | o => o
def orHs (h1 h2 : List A → Store → Out A) (as : List A) (S : Store) : Out A := match h1 as S with
  | .bad => h2 as S
  | o => o
section
variable {X : Cx} {cl : CL} {W : WX} {f : Value → Value → Sem Value} {h h1 h2 : A → A → Store → Out A} {g : Value} {k k1 k2 : List A → Store → Out A}
theorem opV_of (ho : ∃ r, OpR X f r ∧ RdO X.K cl W r h) : OpV X cl W f h := fun pins s σ Hv H S ad x y v u a b Q I rx ry so ra rb q =>
  let ⟨_, h1, h2⟩ := ho
  h1 pins s σ H x y v u Q I rx ry (h2 σ Hv H S ad x y a b Q so ra rb q)
theorem callV_of (ho : ∃ r, CallR X g r ∧ RdC X.K cl W r k) : CallV X cl W g k := fun pins s σ Hv H S ad xs us as Q I r so ra q =>
  let ⟨_, h1, h2⟩ := ho
  h1 pins s σ H xs us Q I r (h2 σ Hv H S ad xs as Q so ra q)
theorem OpV.or (a1 : OpV X cl W f h1) (a2 : OpV X cl W f h2) : OpV X cl W f (orH2 h1 h2) := fun pins s σ Hv H S ad x y v u a b Q I rx ry so ra rb q => by
  unfold orH2 at q
  split at q
  · exact a2 pins s σ Hv H S ad x y v u a b Q I rx ry so ra rb q
  · exact a1 pins s σ Hv H S ad x y v u a b Q I rx ry so ra rb q
theorem CallV.or (a1 : CallV X cl W g k1) (a2 : CallV X cl W g k2) : CallV X cl W g (orHs k1 k2) := fun pins s σ Hv H S ad xs us as Q I r so ra q => by
  unfold orHs at q
  split at q
  · exact a2 pins s σ Hv H S ad xs us as Q I r so ra q
  · exact a1 pins s σ Hv H S ad xs us as Q I r so ra q
variable {a b : Expr} {pos : Pos} {fa fb : Ev A}
theorem bin_run {pins : List (Addr × Obj)} {s : Shared} {σ : St} {H : Hp} {Q : VK} (I : Inv X pins σ H s) (ho : OpV X cl W f h) (ha : SE X cl W a fa) (hb : SE X cl W b fb) (z : cE X.K cl W (eOp h fa fb) σ H Q) :
    wpAny (model X.prog X.w) X.A (eval a X.env) (fun v s1 => wpAny (model X.prog X.w) X.A (eval b X.env) (fun u s2 => wpAny (model X.prog X.w) X.A (f v u) (EP X pins σ Q) X.xe s2) X.xe s1) X.xe s := by
  obtain ⟨Hv, S, ad, env, re, so, q⟩ := z
  obtain ⟨_, pa, ra⟩ := ha.ex
  obtain ⟨_, pb, rb⟩ := hb.ex
  refine wpAny_mono (pa.run pins s σ H (fun x H1 => ∃ S1 Hv1 ad1 r, Ex Hv Hv1 ∧ Pre ad ad1 ∧ StOk X.K cl Hv1 H1 S1 ad1 ∧ RepA X.K cl Hv1 ad1 x r ∧ Pst X.K cl W σ Hv1 ad1 (RA X.K cl Q) ((fb env S1).bind fun y S2 => h r y S2)) I
    (ra σ Hv H S ad env _ re so (Pst.mono (Pst.bind q) fun r S1 Hv1 ad1 H1 e1 p1 s1 q1 v1 r1 => ⟨S1, Hv1, ad1, r, e1, p1, s1, r1, q1⟩))) (fun v s1 hv => ?_) fun _ _ z => z
  obtain ⟨x, H1, I1, rx, S1, Hv1, ad1, r, e1, p1, s1', r1, q1⟩ := hv
  refine wpAny_mono (pb.run pins s1 σ H1 (fun y H2 => ∃ S2 Hv2 ad2 t, Ex Hv1 Hv2 ∧ Pre ad1 ad2 ∧ StOk X.K cl Hv2 H2 S2 ad2 ∧ RepA X.K cl Hv2 ad2 y t ∧ Pst X.K cl W σ Hv2 ad2 (RA X.K cl Q) (h r t S2)) I1
    (rb σ Hv1 H1 S1 ad1 env _ (re.mono e1 p1) s1' (Pst.mono (Pst.bind q1) fun t S2 Hv2 ad2 H2 e2 p2 s2 q2 v2 r2 => ⟨S2, Hv2, ad2, t, e2, p2, s2, r2, q2⟩))) (fun u s2 hu => ?_) fun _ _ z => z
  obtain ⟨y, H2, I2, ry, S2, Hv2, ad2, t, e2, p2, s2', r2, q2⟩ := hu
  exact ho pins s2 σ Hv2 H2 S2 ad2 x y v u r t Q I2 rx ry s2' (r1.mono e2 p2) r2 q2
theorem se_opV {op : Operator} (ho : OpV X cl W (binaryOp op) h) (ha : SE X cl W a fa) (hb : SE X cl W b fb) : SE X cl W (.BinOp a op b pos) (eOp h fa fb) :=
  ⟨cE X.K cl W (eOp h fa fb), ⟨fun pins s σ H Q I z => wpAny_BinOp (bin_run I ho ha hb z)⟩, fun σ Hv H S ad env Q re so q => ⟨Hv, S, ad, env, re, so, q⟩⟩
theorem se_cmpV {op : CmpOp} (ho : OpV X cl W (compareOp op) h) (ha : SE X cl W a fa) (hb : SE X cl W b fb) (hm : behindInMarks op b = false := by first | exact nomark _ | rfl) : SE X cl W (.Compare a [op] [b] pos) (eOp h fa fb) :=
  ⟨cE X.K cl W (eOp h fa fb), ⟨fun pins s σ H Q I z => wpAny_Compare1 (bin_run I ho ha hb z) hm⟩, fun σ Hv H S ad env Q re so q => ⟨Hv, S, ad, env, re, so, q⟩⟩
theorem st_cmpV {op : CmpOp} (ho : OpV X cl W (compareOp op) h) (ha : SE X cl W a fa) (hb : SE X cl W b fb) (hm : behindInMarks op b = false := by first | exact nomark _ | rfl) : ST X cl W (.Compare a [op] [b] pos) (tBool (eOp h fa fb)) := by
  refine ⟨cT X.K cl W (tBool (eOp h fa fb)), ⟨fun pins s σ H Q I z => ?_⟩, fun σ Hv H S ad env Q re so q => ⟨Hv, S, ad, env, re, so, q⟩⟩
  obtain ⟨Hv, S, ad, env, re, so, q⟩ := z
  have q1 : cE X.K cl W (eOp h fa fb) σ H (fun v H1 => ∃ k, v = .bl k ∧ Q k H1) := ⟨Hv, S, ad, env, re, so, Pst.mono (Pst.bind q) fun r S1 Hv1 ad1 H1 e1 p1 s1 q1 v1 r1 => by
    split at q1
    · rename_i k
      cases r1
      exact ⟨k, rfl, q1.hereB s1⟩
    · exact q1.elim⟩
  refine wpAny_isTrue_Compare1 (wpAny_mono (bin_run I ho ha hb q1) (fun v s1 h1 => wpAny_mono h1 (fun u s2 h2 => wpAny_mono h2 (fun c s3 h3 => ?_) fun _ _ z => z) fun _ _ z => z) fun _ _ z => z) hm
  obtain ⟨z, H3, I3, r3, k, rfl, q3⟩ := h3
  cases r3
  exact wpAny_truthy_bool ⟨H3, I3, q3⟩
end
/-! ### own methods behind operators -/
/-- the class's method of that name, by an evaluator -/
def hBool (o : Out A) : Out A := o.bind fun r S => match r with
  | .val (.bl k) => .ok (.val (.bl k)) S
  | _ => .bad
def isC (S : Store) (c : Nat) (a : A) : Bool := match objA S a with
  | some (c', _) => c' == c
  | none => false
def hOwnIn (c : Nat) (g : List A → Store → Out A) (a b : A) (S : Store) : Out A := if isC S c b = true then hBool (g [b, a] S) else .bad
def hOwnNot (c : Nat) (g : List A → Store → Out A) (a b : A) (S : Store) : Out A := if isC S c b = true then (hBool (g [b, a] S)).bind fun r S1 => match r with
  | .val (.bl k) => .ok (.val (.bl (!k))) S1
  | _ => .bad else .bad
theorem isC_at {K : PySem.W.Frag} {cl : CL} {Hv H : Hp} {S : Store} {ad : List Addr} {v : V} {a : A} {c : Nat} (so : StOk K cl Hv H S ad) (r : RepA K cl Hv ad v a) (h : isC S c a = true) : ∃ x dx fs, v = .ref x ∧ H x = some (.ins (cl c) dx fs) := by
  unfold isC at h
  split at h
  · rename_i c' ns e
    obtain rfl := beq_iff_eq.mp h
    obtain ⟨x, dx, fs, h1, h2, _⟩ := obj_at so r e
    exact ⟨x, dx, fs, h1, h2⟩
  · cases h
section
variable {X : Cx} {cl : CL} {W : WX} {k c : Nat} {g : List A → Store → Out A}
/-- x in o by o's own __contains__ -/
theorem v_in (F : MtR X.prog X.w X.K X.mg X.base cl k c "__contains__" g) (B : Bx X W) (hr : Room k X.A) : OpV X cl W (compareOp .In) (hOwnIn c g) := fun pins s σ Hv H S ad x y v u a b Q I rx ry so ra rb q => by
  obtain ⟨f, _, hm, F⟩ := F.ex
  unfold hOwnIn at q
  split at q
  · rename_i hc
    obtain ⟨o, dx, fs, rfl, ho⟩ := isC_at so rb hc
    obtain rfl : u = Value.ref o := ry
    obtain ⟨ox, od, J, _⟩ := StX.insC_at I (.inr ⟨dx, fs, ho⟩ : StX.InsC X H o (cl c))
    have run := run_fnV (us := [.ref o, v]) (vs := [.ref o, x]) F B hr I (.cons rfl (.cons rx .nil)) (spV_of (σ := σ) (Q := fun z H' => ∃ k, z = .bl k ∧ Q (.bl k) H') so (.cons rb (.cons ra .nil)) (Pst.mono (Pst.bind q) fun z S1 Hv1 ad1 H1 e1 p1 s1 q1 v1 r1 => by
      split at q1
      · rename_i k
        cases r1
        exact ⟨k, rfl, q1.here s1 _ .bl⟩
      · exact q1.elim))
    have key : wpAny (model X.prog X.w) X.A (contains (.ref o) v) (fun k s' => EP X pins σ Q (.bool k) s') X.xe s := by
      unfold contains
      refine wpAny_holding (wpAny_bind (wpAny_bind (J.type.here ((PySem.W.looks_findIn I.kIn hm.at_).here ?_))))
      rw [if_neg (by simp)]
      refine wpAny_bind (PySem.W.unlessNone_K I.kIn J hm.at_ hm.fn (wpAny_mono run (fun z s' hz => ?_) fun _ _ z => z))
      obtain ⟨w', H', I', rv, k, rfl, q'⟩ := hz
      cases rv
      exact wpAny_truthy_bool ⟨.bl k, H', I', rfl, q'⟩
    exact wpAny_bind (wpAny_mono key (fun k s' hk => wpAny_pure hk) fun _ _ z => z)
  · exact q.elim
end
end R


namespace R
open PySem L2
/-! ### o op x by o's own method, x of a built-in type whose number slot is empty -/
section
variable {prog : Program} {w : World} {A : Around} {E : Value → Shared → Prop} {s : Shared} {K : PySem.W.Frag} {x C f : Addr} {ox : Obj} {od : Option Obj}
theorem binop_ty {op : Operator} {b : Value} {T : String} {Q : Value → Shared → Prop} (X : K.In s.heap) (I : PySem.W.InstAt s.heap x ox C od) (hb : PySem.W.Looks (model prog w) s.heap (typeOf b) (.type T)) (hc : PySem.W.selfFirst K C = true)
    (hs : PySem.W.findIn K (.ref C) (PySem.dunder op.info.2) = some (some (.ref f))) (hf : PySem.W.isFn K (.ref f) = true) (hT : fillsNumberSlot (.type T) op.info.2 = pure false)
    (h : wpAny (model prog w) A (call (.ref f) [.ref x, b]) (PySem.W.CmpBack Q) E s) : wpAny (model prog w) A (binaryOp op (.ref x) b) Q E s := by
  obtain ⟨cd, hcd, hm⟩ := PySem.W.any_some hc
  obtain ⟨rest, hm⟩ : ∃ rest, cd.mro = .ref C :: rest := by
    cases q : cd.mro with
    | nil => rw [q] at hm; cases hm
    | cons a r =>
      rw [q, List.head?_cons] at hm
      obtain rfl := Option.some.inj (beq_iff_eq.mp hm)
      exact ⟨r, rfl⟩
  unfold binaryOp
  refine wpAny_holding (wpAny_bind ?_)
  unfold binaryOp1
  refine wpAny_bind (I.type.here (wpAny_bind (hb.here (wpAny_bind ((PySem.W.fills_K X hcd hm hs).here ?_)))))
  rw [if_neg (by simp)]
  refine wpAny_bind ?_
  show wpAny _ _ (fillsNumberSlot (.type T) op.info.2) _ _ _
  rw [hT]
  refine wpAny_pure ?_
  simp only [Bool.and_false, Bool.false_eq_true, if_false, Bool.false_and]
  refine wpAny_bind (wpAny_pure ?_)
  simp only [Bool.false_eq_true, if_false]
  refine wpAny_bind (m := tryMethod (.ref x) _ b) ?_
  unfold tryMethod
  refine wpAny_bind (PySem.W.special_fn X I hs (beq_iff_eq.mp hf) (wpAny_mono h (fun v s' hv => ?_) fun _ _ e => e))
  cases v <;> first | exact hv.elim | exact wpAny_pure (wpAny_pure (wpAny_pure hv))
/-- the same where the built-in type has such a slot (int, bool) -/
theorem binop_num {op : Operator} {b : Value} {T : String} {tk : Option Value} {Q : Value → Shared → Prop} (X : K.In s.heap) (I : PySem.W.InstAt s.heap x ox C od) (hb : PySem.W.Looks (model prog w) s.heap (typeOf b) (.type T)) (hc : PySem.W.selfFirst K C = true)
    (hs : PySem.W.findIn K (.ref C) (PySem.dunder op.info.2) = some (some (.ref f))) (hf : PySem.W.isFn K (.ref f) = true) (hT : fillsNumberSlot (.type T) op.info.2 = pure true) (hsub : PySem.W.subIn K (.type T) (.ref C) = some false)
    (hR : PySem.W.findIn K (.ref C) (dunderR op.info.2) = some none) (htk : typeLookup (.type T) (dunderR op.info.2) = pure tk)
    (h : wpAny (model prog w) A (call (.ref f) [.ref x, b]) (PySem.W.CmpBack Q) E s) : wpAny (model prog w) A (binaryOp op (.ref x) b) Q E s := by
  obtain ⟨cd, hcd, hm⟩ := PySem.W.any_some hc
  obtain ⟨rest, hm⟩ : ∃ rest, cd.mro = .ref C :: rest := by
    cases q : cd.mro with
    | nil => rw [q] at hm; cases hm
    | cons a r =>
      rw [q, List.head?_cons] at hm
      obtain rfl := Option.some.inj (beq_iff_eq.mp hm)
      exact ⟨r, rfl⟩
  have hin : PySem.W.Looks (model prog w) s.heap (numberSlotInPython (.ref C) op.info.2) true := by
    unfold numberSlotInPython
    refine (PySem.W.looks_findIn X hs).andThen ?_
    refine PySem.W.Looks.andThen (a := true) .now ?_
    refine (PySem.W.looks_findIn X hR).andThen ?_
    exact PySem.W.Looks.andThen (a := false) .now .now
  unfold binaryOp
  refine wpAny_holding (wpAny_bind ?_)
  unfold binaryOp1
  refine wpAny_bind (I.type.here (wpAny_bind (hb.here (wpAny_bind ((PySem.W.fills_K X hcd hm hs).here ?_)))))
  rw [if_neg (by simp)]
  refine wpAny_bind ?_
  show wpAny _ _ (fillsNumberSlot (.type T) op.info.2) _ _ _
  rw [hT]
  refine wpAny_pure ?_
  simp only [Bool.and_self, if_true]
  refine wpAny_bind ((PySem.W.looks_subIn X hsub).here ?_)
  simp only [Bool.false_eq_true, if_false, Bool.not_false, Bool.and_self, if_true]
  refine wpAny_bind (hin.here ?_)
  simp only [if_true]
  refine wpAny_bind (m := numberSlotInPython (.type T) op.info.2) (wpAny_pure ?_)
  simp only [Bool.not_false, if_true]
  refine wpAny_bind (m := typeLookup (.type T) (dunderR op.info.2)) ?_
  rw [htk]
  refine wpAny_pure (wpAny_bind (m := tryMethod (.ref x) (dunder op.info.2) b) ?_)
  unfold tryMethod
  refine wpAny_bind (PySem.W.special_fn X I hs (beq_iff_eq.mp hf) (wpAny_mono h (fun v s' hv => ?_) fun _ _ e => e))
  cases v <;> first | exact hv.elim | exact wpAny_pure (wpAny_pure (wpAny_pure hv))
/-- the same, both of the class -/
theorem binop_same {op : Operator} {b : Value} {Q : Value → Shared → Prop} (X : K.In s.heap) (I : PySem.W.InstAt s.heap x ox C od) (hb : PySem.W.Looks (model prog w) s.heap (typeOf b) (.ref C)) (hc : PySem.W.selfFirst K C = true)
    (hs : PySem.W.findIn K (.ref C) (PySem.dunder op.info.2) = some (some (.ref f))) (hf : PySem.W.isFn K (.ref f) = true)
    (h : wpAny (model prog w) A (call (.ref f) [.ref x, b]) (PySem.W.CmpBack Q) E s) : wpAny (model prog w) A (binaryOp op (.ref x) b) Q E s := by
  obtain ⟨cd, hcd, hm⟩ := PySem.W.any_some hc
  obtain ⟨rest, hm⟩ : ∃ rest, cd.mro = .ref C :: rest := by
    cases q : cd.mro with
    | nil => rw [q] at hm; cases hm
    | cons a r =>
      rw [q, List.head?_cons] at hm
      obtain rfl := Option.some.inj (beq_iff_eq.mp hm)
      exact ⟨r, rfl⟩
  unfold binaryOp
  refine wpAny_holding (wpAny_bind ?_)
  unfold binaryOp1
  refine wpAny_bind (I.type.here (wpAny_bind (hb.here (wpAny_bind ((PySem.W.fills_K X hcd hm hs).here ?_)))))
  rw [if_pos (by simp)]
  refine wpAny_bind (wpAny_pure ?_)
  simp only [Bool.and_false, Bool.false_eq_true, if_false, Bool.false_and]
  refine wpAny_bind (wpAny_pure ?_)
  simp only [Bool.false_eq_true, if_false]
  refine wpAny_bind (m := tryMethod (.ref x) _ b) ?_
  unfold tryMethod
  refine wpAny_bind (PySem.W.special_fn X I hs (beq_iff_eq.mp hf) (wpAny_mono h (fun v s' hv => ?_) fun _ _ e => e))
  cases v <;> first | exact hv.elim | exact wpAny_pure (wpAny_pure (wpAny_pure hv))
end
end R


namespace R
open PySem L2
section
variable {X : Cx} {cl : CL} {pins : List (Addr × Obj)} {σ : St} {Hv H : Hp} {S : Store} {ad : List Addr} {s : Shared} {t : CtT}
theorem type_looks (T : CtOk t X.K cl) (I : Inv X pins σ H s) (so : StOk X.K cl Hv H S ad) {x : V} {u : Value} {a : A} {g : Tag} (rx : RelV x u) (r : RepA X.K cl Hv ad x a) (h : tagA t S a = some g) : PySem.W.Looks (model X.prog X.w) s.heap (typeOf u) (tagV cl g) := by
  obtain ⟨P, Z, p, _⟩ := kitR_of I rx (tyR_A T so r h)
  exact Z.ty _ _ I.kIn p
end
/-! which built-in types fill + and - -/
def numB (T : String) : Bool := T == "int" || T == "bool"
structure NumOp (op : Operator) : Prop where
  fl : ∀ T ∈ baseTys, fillsNumberSlot (.type T) op.info.2 = pure (numB T)
  tk : ∀ T, numB T = true → ∃ tk, typeLookup (.type T) (dunderR op.info.2) = pure tk
theorem num_cases {T : String} (h : numB T = true) : T = "int" ∨ T = "bool" := by
  unfold numB at h
  rcases (Bool.or_eq_true _ _).mp h with h | h
  · exact .inl (beq_iff_eq.mp h)
  · exact .inr (beq_iff_eq.mp h)
theorem numOp_add : NumOp .Add := by
  refine ⟨fun T hT => ?_, fun T hT => ⟨some (.builtin "int.__radd__"), by rcases num_cases hT with rfl | rfl <;> (rw [typeLookup_type, builtinLookup_eq_fast]; kernel_rfl)⟩⟩
  simp only [baseTys, List.mem_cons, List.not_mem_nil, or_false] at hT
  rcases hT with rfl | rfl | rfl | rfl | rfl | rfl | rfl <;> (unfold fillsNumberSlot; simp only [typeLookup_type, builtinLookup_eq_fast]; kernel_rfl)
theorem numOp_sub : NumOp .Sub := by
  refine ⟨fun T hT => ?_, fun T hT => ⟨some (.builtin "int.__rsub__"), by rcases num_cases hT with rfl | rfl <;> (rw [typeLookup_type, builtinLookup_eq_fast]; kernel_rfl)⟩⟩
  simp only [baseTys, List.mem_cons, List.not_mem_nil, or_false] at hT
  rcases hT with rfl | rfl | rfl | rfl | rfl | rfl | rfl <;> (unfold fillsNumberSlot; simp only [typeLookup_type, builtinLookup_eq_fast]; kernel_rfl)
/-- data and places alone come back -/
def noNI (o : Out A) : Out A := noFv o
/-- o op x by o's own method -/
def hOwnBin (t : CtT) (c : Nat) (g : List A → Store → Out A) (a b : A) (S : Store) : Out A := if isC S c a = true then (match tagA t S b with
  | some (.b T) => if T ∈ baseTys then noNI (g [a, b] S) else .bad
  | some (.o c') => if c' = c then noNI (g [a, b] S) else .bad
  | none => .bad) else .bad
theorem not_ni {K : PySem.W.Frag} {cl : CL} {Hv : Hp} {ad : List Addr} {x : V} {u : Value} {a : A} (r : RepA K cl Hv ad x a) (rx : RelV x u) : u ≠ .notImplemented := by
  cases a with
  | val d =>
    intro z
    subst z
    cases r <;> first | (cases rx; done) | (obtain ⟨_, h⟩ := rx; cases h; done)
  | loc n =>
    obtain ⟨y, rfl, _⟩ := r
    intro z
    subst z
    cases rx
  | fv k =>
    obtain ⟨y, rfl, _⟩ := r
    intro z
    subst z
    cases rx
structure BinK (K : PySem.W.Frag) (C : Addr) (op : Operator) : Prop where
  sf : PySem.W.selfFirst K C = true
  nr : PySem.W.findIn K (.ref C) (dunderR op.info.2) = some none
  sb : ∀ T ∈ baseTys, PySem.W.subIn K (.type T) (.ref C) = some false
def binB (K : PySem.W.Frag) (C : Addr) (op : Operator) : Bool := PySem.W.selfFirst K C && (decide (PySem.W.findIn K (.ref C) (dunderR op.info.2) = some none) && baseTys.all fun T => decide (PySem.W.subIn K (.type T) (.ref C) = some false))
theorem binB_ok {K : PySem.W.Frag} {C : Addr} {op : Operator} (h : binB K C op = true) : BinK K C op := by
  obtain ⟨h1, h⟩ := Bool.and_eq_true_iff.mp h
  obtain ⟨h2, h3⟩ := Bool.and_eq_true_iff.mp h
  exact ⟨h1, of_decide_eq_true h2, fun T hT => of_decide_eq_true (List.all_eq_true.mp h3 T hT)⟩
section
variable {X : Cx} {cl : CL} {W : WX} {k c : Nat} {g : List A → Store → Out A} {t : CtT} {op : Operator}
theorem v_bin (N : NumOp op) (T : CtOk t X.K cl) (F : MtR X.prog X.w X.K X.mg X.base cl k c (PySem.dunder op.info.2) g) (hk : BinK X.K (cl c) op) (B : Bx X W) (hr : Room k X.A) : OpV X cl W (binaryOp op) (hOwnBin t c g) := fun pins s σ Hv H S ad x y v u a b Q I rx ry so ra rb q => by
  obtain ⟨f, _, hm, F⟩ := F.ex
  unfold hOwnBin at q
  split at q
  · rename_i hc
    obtain ⟨o, dx, fs, rfl, ho⟩ := isC_at so ra hc
    obtain rfl : v = Value.ref o := rx
    obtain ⟨ox, od, J, _⟩ := StX.insC_at I (.inr ⟨dx, fs, ho⟩ : StX.InsC X H o (cl c))
    have back : ∀ {o1 : Out A}, Pst X.K cl W σ Hv ad (RA X.K cl Q) (noNI o1) → o1 = g [a, b] S → wpAny (model X.prog X.w) X.A (call (.ref f) [.ref o, u]) (PySem.W.CmpBack (EP X pins σ Q)) X.xe s := fun {o1} q e => by
      subst e
      refine wpAny_mono (run_fnV (us := [.ref o, u]) (vs := [.ref o, y]) (Q := fun z H' => (∀ u, RelV z u → u ≠ .notImplemented) ∧ Q z H') F B hr I (.cons rfl (.cons ry .nil)) (spV_of (σ := σ) so (.cons ra (.cons rb .nil)) ?_)) (fun z s' hz => ?_) fun _ _ z => z
      · exact (noFv_pst q).mono fun r S1 Hv1 ad1 H1 e1 p1 s1 q1 v1 r1 => ⟨fun u hu => not_ni r1 hu, q1 v1 r1⟩
      · obtain ⟨w', H', I', rv, hni, q'⟩ := hz
        unfold PySem.W.CmpBack
        split
        · exact absurd rfl (hni _ rv)
        · exact ⟨w', H', I', rv, q'⟩
    split at q
    · rename_i T0 et
      split at q
      · rename_i hT
        have hl := type_looks T I so ry rb et
        cases en : numB T0 with
        | false => exact binop_ty I.kIn J hl hk.sf hm.at_ hm.fn (by rw [N.fl T0 hT, en]) (back q rfl)
        | true =>
          obtain ⟨tk, htk⟩ := N.tk T0 en
          exact binop_num I.kIn J hl hk.sf hm.at_ hm.fn (by rw [N.fl T0 hT, en]) (hk.sb T0 hT) hk.nr htk (back q rfl)
      · exact q.elim
    · rename_i c' et
      split at q
      · rename_i hcc
        subst hcc
        have hl := type_looks T I so ry rb et
        exact binop_same I.kIn J hl hk.sf hm.at_ hm.fn (back q rfl)
      · exact q.elim
    · exact q.elim
  · exact q.elim
end
end R


namespace R
open PySem L2
section
variable {P : Program} {w : World} {K : PySem.W.Frag} {mg : Str → Option Value} {base : Heap} {cl : CL} {j k c : Nat} {f : Addr} {m : Str} {sp : Sp} {g : List A → Store → Out A}
theorem FnP.mono (F : FnP P w K mg base j f sp) (h : j ≤ k) : FnP P w K mg base k f sp := ⟨fun A outer s H us vs Q E gd hr => F.run A outer s H us vs Q E gd (hr.mono h)⟩
theorem MtR.mono (F : MtR P w K mg base cl j c m g) (h : j ≤ k) : MtR P w K mg base cl k c m g := let ⟨f, a, b, F⟩ := F.ex; ⟨f, a, b, F.mono h⟩
theorem ObR.mono (F : ObR P w K mg base cl j c g) (h : j ≤ k) : ObR P w K mg base cl k c g := let ⟨f, a, F⟩ := F.ex; ⟨f, a, F.mono h⟩
theorem FnV.mono (F : FnV P w K mg base cl j f g) (h : j ≤ k) : FnV P w K mg base cl k f g := ⟨F.kp, F.fn.mono h⟩
end
section
variable {X : Cx} {cl : CL} {W : WX} {k c : Nat} {f : Addr} {g : List A → Store → Out A}
/-- it runs, called from a built-in that X calls -/
theorem run_fn1 {pins : List (Addr × Obj)} {σ : St} {H : Hp} {s : Shared} {Q : VK} {us : List Value} {vs : List V} {sp : Sp} (F : FnP X.prog X.w X.K X.mg X.base k f sp) (B : Bx X W) (hr : Room (k + 1) X.A) (I : Inv X pins σ H s) (r : Vals vs us) (h : sp vs H Q (WE W σ)) :
    wpAny (model X.prog X.w) X.A.in1 (call (.ref f) us) (EP X pins σ Q) X.xe s := by
  refine wpAny_call (codeAny_mono (F.run X.A.in1 X.stack s H us vs Q (WE W σ) B.gd hr.in1 I.env0.in1 r h) fun z s' hq => ?_)
  match z, hq with
  | .error e, hq => exact passAt B.tk σ pins H s e s' I hq
  | .ok (.ret u), hq => exact I.after hq
/-! ### len(o) -/
def kLen (r : A) (S : Store) : Out A := match r with
  | .val (.int n) => if 0 ≤ n ∧ n < 2 ^ 63 then .ok (.val (.int n)) S else .bad
  | _ => .bad
def hOwnLen (c : Nat) (g : List A → Store → Out A) (as : List A) (S : Store) : Out A := match as with
  | [a] => if isC S c a = true then (g [a] S).bind kLen else .bad
  | _ => .bad
theorem v_len (F : MtR X.prog X.w X.K X.mg X.base cl k c "__len__" g) (B : Bx X W) (hr : Room (k + 1) X.A) : CallV X cl W (.builtin "len") (hOwnLen c g) := fun pins s σ Hv H S ad xs us as Q I r so ra q => by
  obtain ⟨f, _, hm, F⟩ := F.ex
  unfold hOwnLen at q
  split at q
  · rename_i a
    split at q
    · rename_i hc
      obtain ⟨v, rfl, r1⟩ := rep1 ra
      obtain ⟨o, dx, fs, rfl, ho⟩ := isC_at so r1 hc
      cases r with
      | cons rx rn =>
        cases rn
        obtain rfl := rx
        obtain ⟨ox, od, J, _⟩ := StX.insC_at I (.inr ⟨dx, fs, ho⟩ : StX.InsC X H o (cl c))
        have run := run_fn1 (us := [.ref o]) (vs := [.ref o]) (Q := fun z H' => ∃ n : Int, z = .int n ∧ (0 ≤ n ∧ n < 2 ^ 63) ∧ Q (.int n) H') F B hr I (.cons rfl .nil) (spV_of (σ := σ) so (.cons r1 .nil) (Pst.mono (Pst.bind q) fun z S1 Hv1 ad1 H1 e1 p1 s1 q1 v1 r1 => by
          unfold kLen at q1
          split at q1
          · rename_i n
            split at q1
            · rename_i hn
              cases r1
              exact ⟨n, rfl, hn, q1.here s1 _ .int⟩
            · exact q1.elim
          · exact q1.elim))
        refine Calls.call_function_entry kind_len plain_len entry_len (args_len1 _) ?_
        unfold Builtin.«len»
        refine wpAny_bind (m := oneArg "len" _) (wpAny_pure ?_)
        refine wpAny_bind (m := callSpecial? (.ref o) (Str.ofString "__len__")) (PySem.W.special_fn I.kIn J hm.at_ (beq_iff_eq.mp hm.fn) (wpAny_mono run (fun z s' hz => ?_) fun _ _ y => y))
        obtain ⟨w', H', I', rv, n, rfl, ⟨h0, h1⟩, q'⟩ := hz
        obtain ⟨t, rfl⟩ := rv
        refine wpAny_bind (wpAny_holding (wpAny_pure ?_))
        refine wpAny_bind (wpAny_letGo ?_)
        show wpAny _ _ (if n < 0 then _ else _) _ _ _
        rw [if_neg (by omega)]
        show wpAny _ _ (if n ≥ 2 ^ 63 then _ else _) _ _ _
        rw [if_neg (by omega)]
        exact wpAny_bind (wpAny_mkInt (wpAny_pure ⟨_, rfl, .int n, H', I'.tok _, ⟨_, rfl⟩, q'⟩))
    · exact q.elim
  · exact q.elim
end
end R


namespace R
open PySem L2
/-! ### what is asked of an own class -/
structure OwK (t : CtT) (K : PySem.W.Frag) (cl : CL) (c : Nat) : Prop where
  sf : PySem.W.selfFirst K (cl c) = true
  nq : PySem.W.noSeq K (cl c) = true
  sb : ∀ T ∈ baseTys, PySem.W.subIn K (.type T) (.ref (cl c)) = some false
  so : ∀ c', c' < t.n → PySem.W.notFirst K (cl c) (.ref (cl c')) = true
  om : PySem.W.mroIn K (cl c) (.type "object") = some true
def owB (t : CtT) (K : PySem.W.Frag) (cl : CL) (c : Nat) : Bool := PySem.W.selfFirst K (cl c) && (PySem.W.noSeq K (cl c) && ((baseTys.all fun T => decide (PySem.W.subIn K (.type T) (.ref (cl c)) = some false)) && (((List.range t.n).all fun c' => PySem.W.notFirst K (cl c) (.ref (cl c'))) && decide (PySem.W.mroIn K (cl c) (.type "object") = some true))))
theorem owB_ok {t : CtT} {K : PySem.W.Frag} {cl : CL} {c : Nat} (h : owB t K cl c = true) : OwK t K cl c := by
  obtain ⟨h1, h⟩ := Bool.and_eq_true_iff.mp h
  obtain ⟨h2, h⟩ := Bool.and_eq_true_iff.mp h
  obtain ⟨h3, h⟩ := Bool.and_eq_true_iff.mp h
  obtain ⟨h4, h5⟩ := Bool.and_eq_true_iff.mp h
  exact ⟨h1, h2, fun T hT => of_decide_eq_true (List.all_eq_true.mp h3 T hT), fun c' hc => List.all_eq_true.mp h4 c' (List.mem_range.mpr hc), of_decide_eq_true h5⟩
/-- the right side of an own comparison -/
def okR (t : CtT) (S : Store) (b : A) : Bool := match tagA t S b with
  | some (.b T) => decide (T ∈ baseTys)
  | some (.o c') => decide (c' < t.n)
  | none => false
section
variable {X : Cx} {cl : CL} {W : WX} {k c : Nat} {g : List A → Store → Out A} {t : CtT}
theorem okR_at {pins : List (Addr × Obj)} {s : Shared} {σ : St} {Hv H : Hp} {S : Store} {ad : List Addr} {y : V} {u : Value} {b : A} (T : CtOk t X.K cl) (O : OwK t X.K cl c) (I : Inv X pins σ H s) (so : StOk X.K cl Hv H S ad) (ry : RelV y u) (rb : RepA X.K cl Hv ad y b) (h : okR t S b = true) :
    ∃ tb, PySem.W.Looks (model X.prog X.w) s.heap (typeOf u) tb ∧ PySem.W.notFirst X.K (cl c) tb = true := by
  unfold okR at h
  split at h
  · rename_i T0 e
    refine ⟨_, type_looks T I so ry rb e, ?_⟩
    show (_ || _) = true
    rw [show (PySem.W.subIn X.K (tagV cl (.b T0)) (.ref (cl c)) == some false) = true from beq_iff_eq.mpr (O.sb T0 (of_decide_eq_true h)), Bool.or_true]
  · rename_i c' e
    exact ⟨_, type_looks T I so ry rb e, O.so c' (of_decide_eq_true h)⟩
  · cases h
/-! ### comparisons by an own method -/
def hOwnCmp (t : CtT) (c : Nat) (g : List A → Store → Out A) (a b : A) (S : Store) : Out A := if isC S c a = true ∧ okR t S b = true then noNI (g [a, b] S) else .bad
theorem v_cmp {op : CmpOp} (T : CtOk t X.K cl) (O : OwK t X.K cl c) (F : MtR X.prog X.w X.K X.mg X.base cl k c (cmpInfo op).2.1 g) (B : Bx X W) (hr : Room k X.A) (hop : ∀ v u, compareOp op v u = richCompare op v u) : OpV X cl W (compareOp op) (hOwnCmp t c g) := fun pins s σ Hv H S ad x y v u a b Q I rx ry so ra rb q => by
  obtain ⟨f, _, hm, F⟩ := F.ex
  unfold hOwnCmp at q
  split at q
  · rename_i hc
    obtain ⟨hc, hR⟩ := hc
    obtain ⟨o, dx, fs, rfl, ho⟩ := isC_at so ra hc
    obtain rfl : v = Value.ref o := rx
    obtain ⟨ox, od, J, _⟩ := StX.insC_at I (.inr ⟨dx, fs, ho⟩ : StX.InsC X H o (cl c))
    obtain ⟨tb, hl, hn⟩ := okR_at T O I so ry rb hR
    have run := run_fnV (us := [.ref o, u]) (vs := [.ref o, y]) (Q := fun z H' => (∀ u, RelV z u → u ≠ .notImplemented) ∧ Q z H') F B hr I (.cons rfl (.cons ry .nil)) (spV_of (σ := σ) so (.cons ra (.cons rb .nil)) ((noFv_pst q).mono fun r S1 Hv1 ad1 H1 e1 p1 s1 q1 v1 r1 => ⟨fun u hu => not_ni r1 hu, q1 v1 r1⟩))
    have one : wpAny (model X.prog X.w) X.A (tryCompare (.ref o) (cmpInfo op).2.1 u) (fun r s' => ∃ z, r = some z ∧ EP X pins σ Q z s') X.xe s := by
      unfold tryCompare
      refine wpAny_bind (PySem.W.ifBound_K I.kIn J hm.at_ hm.fn (wpAny_mono run (fun z s' hz => ?_) fun _ _ e => e))
      obtain ⟨w', H', I', rv, hni, q'⟩ := hz
      have hz := hni _ rv
      cases z <;> first | exact absurd rfl hz | exact wpAny_pure ⟨_, rfl, w', H', I', rv, q'⟩
    rw [hop]
    unfold richCompare
    simp only [oneThing_ref]
    refine wpAny_holding (wpAny_bind (wpAny_cRoomFor (by have := hr.un; omega) ?_))
    refine wpAny_bind (J.type.here (wpAny_bind (hl.here ?_)))
    have fin : ∀ {s : Shared} {k' : Value → Shared → Prop}, (∃ z, k' z s) → True := fun _ => trivial
    split
    · rename_i e
      have e2 : PySem.W.subIn X.K tb (.ref (cl c)) = some false := by
        rcases Bool.or_eq_true_iff.mp hn with z | z
        · rw [beq_iff_eq.mp z] at e
          simp at e
        · exact beq_iff_eq.mp z
      refine wpAny_bind ((PySem.W.looks_subIn I.kIn e2).here ?_)
      simp only [Bool.false_eq_true, if_false]
      refine wpAny_bind (wpAny_mono one (fun r s' z => ?_) fun _ _ e => e)
      obtain ⟨z, rfl, hq⟩ := z
      exact wpAny_pure hq
    · refine wpAny_bind (wpAny_pure ?_)
      simp only [Bool.false_eq_true, if_false]
      refine wpAny_bind (wpAny_mono one (fun r s' z => ?_) fun _ _ e => e)
      obtain ⟨z, rfl, hq⟩ := z
      exact wpAny_pure hq
  · exact q.elim
end
section
variable {M : Model} {A : Around} {E : Value → Shared → Prop} {s : Shared} {K : PySem.W.Frag} {x C : Addr} {ox : Obj} {od : Option Obj}
theorem ifBound_blt {name : Str} {id : String} {args : List Value} {Q : Option Value → Shared → Prop} (X : K.In s.heap) (I : PySem.W.InstAt s.heap x ox C od) (hs : PySem.W.findIn K (.ref C) name = some (some (.builtin id)))
    (hb : ∀ self, bindSpecial (.builtin id) self = pure (.builtin id, [self])) (h : wpAny M A (call (.builtin id) (.ref x :: args)) (fun v => Q (some v)) E s) : wpAny M A (callSpecialIfBound? (.ref x) name args) Q E s := by
  simp only [callSpecialIfBound?, bindSpecialIfBound?]
  refine wpAny_holding (wpAny_bind (wpAny_bind (wpAny_bind (I.type.here ((PySem.W.looks_findIn X hs).here ?_)))))
  refine wpAny_bind (wpAny_askSetting (wpAny_ite ?_))
  have fin : wpAny M A (call (.builtin id) ([.ref x] ++ args) >>= fun v => pure (some v)) Q E s := wpAny_bind (wpAny_mono h (fun v s' h' => wpAny_pure h') fun _ _ h' => h')
  split
  · exact wpAny_bind ((PySem.W.Looks.of_pure (hb _)).here (wpAny_pure (by exact fin)))
  · exact wpAny_tryCatch (wpAny_bind ((PySem.W.Looks.of_pure (hb _)).here (wpAny_pure (by exact fin))))
end
section
variable {X : Cx} {cl : CL} {W : WX} {k c : Nat} {g : List A → Store → Out A} {t : CtT}
def kNeg (r : A) (S : Store) : Out A := match r with
  | .val (.bl k) => .ok (.val (.bl (!k))) S
  | _ => .bad
def hOwnNe (t : CtT) (c : Nat) (g : List A → Store → Out A) (a b : A) (S : Store) : Out A := if isC S c a = true ∧ okR t S b = true then (g [a, b] S).bind kNeg else .bad
/-- o != x by o's own __eq__ -/
theorem v_ne (T : CtOk t X.K cl) (O : OwK t X.K cl c) (hne : PySem.W.findIn X.K (.ref (cl c)) "__ne__" = some (some (.builtin "object.__ne__"))) (F : MtR X.prog X.w X.K X.mg X.base cl k c "__eq__" g) (B : Bx X W) (hr : Room (k + 1) X.A) : OpV X cl W (compareOp .NotEq) (hOwnNe t c g) := fun pins s σ Hv H S ad x y v u a b Q I rx ry so ra rb q => by
  obtain ⟨f, _, hm, F⟩ := F.ex
  unfold hOwnNe at q
  split at q
  · rename_i hc
    obtain ⟨hc, hR⟩ := hc
    obtain ⟨o, dx, fs, rfl, ho⟩ := isC_at so ra hc
    obtain rfl : v = Value.ref o := rx
    obtain ⟨ox, od, J, _⟩ := StX.insC_at I (.inr ⟨dx, fs, ho⟩ : StX.InsC X H o (cl c))
    obtain ⟨tb, hl, hn⟩ := okR_at T O I so ry rb hR
    have run := run_fn1 (us := [.ref o, u]) (vs := [.ref o, y]) (Q := fun z H' => ∃ k : Bool, z = .bl k ∧ Q (.bl (!k)) H') F B hr I (.cons rfl (.cons ry .nil)) (spV_of (σ := σ) so (.cons ra (.cons rb .nil)) (Pst.mono (Pst.bind q) fun r S1 Hv1 ad1 H1 e1 p1 s1 q1 v1 r1 => by
      unfold kNeg at q1
      split at q1
      · rename_i k
        cases r1
        exact ⟨k, rfl, q1.here s1 _ .bl⟩
      · exact q1.elim))
    have one : wpAny (model X.prog X.w) X.A (tryCompare (.ref o) "__ne__" u) (fun r s' => ∃ z, r = some z ∧ EP X pins σ Q z s') X.xe s := by
      unfold tryCompare
      refine wpAny_bind (ifBound_blt I.kIn J hne PySem.F.slot_tuple_iterator_ne.bind (wpAny_call (codeAny_call_builtin PySem.F.slot_tuple_iterator_ne.plain PySem.F.cmpEntry_ne (PySem.W.check_slot (i := "object.__ne__") (owner := "object") (n := "__ne__") (by decide +kernel) (by decide +kernel) (J.type.andThen (PySem.W.looks_mroIn I.kIn O.om)) (PySem.F.cmpArgs_ne _ _) ?_))))
      unfold Builtin.«object.__ne__»
      refine wpAny_bind (m := slotArgs "__ne__" 1 _) (wpAny_pure ?_)
      refine wpAny_bind (m := cRoomFor _ _) (wpAny_cRoomFor (by have := hr.un; show X.A.units + 1 < _; omega) ?_)
      refine wpAny_bind (m := callSpecialIfBound? (.ref o) (Str.ofString "__eq__") _) (PySem.W.ifBound_K I.kIn J hm.at_ hm.fn (wpAny_mono run (fun z s' hz => ?_) fun _ _ e => e))
      obtain ⟨w', H', I', rv, kk, rfl, q'⟩ := hz
      cases rv
      refine wpAny_bind (m := truthy (.bool kk)) (wpAny_truthy_bool ?_)
      refine wpAny_pure ?_
      exact wpAny_pure ⟨_, rfl, .bl (!kk), H', I', rfl, q'⟩
    show wpAny _ _ (richCompare .NotEq (.ref o) u) _ _ _
    unfold richCompare
    simp only [oneThing_ref]
    refine wpAny_holding (wpAny_bind (wpAny_cRoomFor (by have := hr.un; omega) ?_))
    refine wpAny_bind (J.type.here (wpAny_bind (hl.here ?_)))
    split
    · rename_i e
      have e2 : PySem.W.subIn X.K tb (.ref (cl c)) = some false := by
        rcases Bool.or_eq_true_iff.mp hn with z | z
        · rw [beq_iff_eq.mp z] at e
          simp at e
        · exact beq_iff_eq.mp z
      refine wpAny_bind ((PySem.W.looks_subIn I.kIn e2).here ?_)
      simp only [Bool.false_eq_true, if_false]
      refine wpAny_bind (wpAny_mono one (fun r s' z => ?_) fun _ _ e => e)
      obtain ⟨z, rfl, hq⟩ := z
      exact wpAny_pure hq
    · refine wpAny_bind (wpAny_pure ?_)
      simp only [Bool.false_eq_true, if_false]
      refine wpAny_bind (wpAny_mono one (fun r s' z => ?_) fun _ _ e => e)
      obtain ⟨z, rfl, hq⟩ := z
      exact wpAny_pure hq
  · exact q.elim
end
end R


namespace R
open PySem L2
open PyProof.Rows (subscriptTail)
section
variable {X : Cx} {cl : CL} {W : WX} {k c : Nat} {g : List A → Store → Out A} {t : CtT}
/-! ### ~o, -o -/
def hOwnUn (c : Nat) (g : List A → Store → Out A) (a : A) (S : Store) : Out A := if isC S c a = true then g [a] S else .bad
theorem v_inv (F : MtR X.prog X.w X.K X.mg X.base cl k c "__invert__" g) (B : Bx X W) (hr : Room k X.A) : UnV X cl W (unaryOp .Invert) (hOwnUn c g) := fun pins s σ Hv H S ad x v a Q I rx so ra q => by
  obtain ⟨f, _, hm, F⟩ := F.ex
  unfold hOwnUn at q
  split at q
  · rename_i hc
    obtain ⟨o, dx, fs, rfl, ho⟩ := isC_at so ra hc
    obtain rfl : v = Value.ref o := rx
    obtain ⟨ox, od, J, _⟩ := StX.insC_at I (.inr ⟨dx, fs, ho⟩ : StX.InsC X H o (cl c))
    have run := run_fnV (us := [.ref o]) (vs := [.ref o]) (Q := Q) F B hr I (.cons rfl .nil) (spV_of (σ := σ) so (.cons ra .nil) q)
    unfold unaryOp
    refine wpAny_holding ?_
    show wpAny _ _ (callSpecial? (.ref o) (Str.ofString "__invert__") >>= _) _ _ _
    exact wpAny_bind (PySem.W.special_fn I.kIn J hm.at_ (beq_iff_eq.mp hm.fn) (wpAny_mono run (fun z s' hz => wpAny_pure hz) fun _ _ y => y))
  · exact q.elim
theorem v_neg (F : MtR X.prog X.w X.K X.mg X.base cl k c "__neg__" g) (B : Bx X W) (hr : Room k X.A) : UnV X cl W (unaryOp .USub) (hOwnUn c g) := fun pins s σ Hv H S ad x v a Q I rx so ra q => by
  obtain ⟨f, _, hm, F⟩ := F.ex
  unfold hOwnUn at q
  split at q
  · rename_i hc
    obtain ⟨o, dx, fs, rfl, ho⟩ := isC_at so ra hc
    obtain rfl : v = Value.ref o := rx
    obtain ⟨ox, od, J, _⟩ := StX.insC_at I (.inr ⟨dx, fs, ho⟩ : StX.InsC X H o (cl c))
    have run := run_fnV (us := [.ref o]) (vs := [.ref o]) (Q := Q) F B hr I (.cons rfl .nil) (spV_of (σ := σ) so (.cons ra .nil) q)
    unfold unaryOp
    refine wpAny_holding ?_
    show wpAny _ _ (callSpecial? (.ref o) (Str.ofString "__neg__") >>= _) _ _ _
    exact wpAny_bind (PySem.W.special_fn I.kIn J hm.at_ (beq_iff_eq.mp hm.fn) (wpAny_mono run (fun z s' hz => wpAny_pure hz) fun _ _ y => y))
  · exact q.elim
/-! ### str(o) -/
def kStr (r : A) (S : Store) : Out A := match r with
  | .val (.str x) => .ok (.val (.str x)) S
  | _ => .bad
def hOwnStr (c : Nat) (g : List A → Store → Out A) (as : List A) (S : Store) : Out A := match as with
  | [a] => if isC S c a = true then (g [a] S).bind kStr else .bad
  | _ => .bad
theorem run_fn2 {f : Addr} {pins : List (Addr × Obj)} {σ : St} {H : Hp} {s : Shared} {Q : VK} {us : List Value} {vs : List V} {sp : Sp} (F : FnP X.prog X.w X.K X.mg X.base k f sp) (B : Bx X W) (hr : Room (k + 2) X.A) (I : Inv X pins σ H s) (r : Vals vs us) (h : sp vs H Q (WE W σ)) :
    wpAny (model X.prog X.w) X.A.in1.in1 (call (.ref f) us) (EP X pins σ Q) X.xe s := by
  refine wpAny_call (codeAny_mono (F.run X.A.in1.in1 X.stack s H us vs Q (WE W σ) B.gd hr.in1.in1 I.env0.in1.in1 r h) fun z s' hq => ?_)
  match z, hq with
  | .error e, hq => exact passAt B.tk σ pins H s e s' I hq
  | .ok (.ret u), hq => exact I.after hq
theorem v_str (F : MtR X.prog X.w X.K X.mg X.base cl k c "__str__" g) (B : Bx X W) (hr : Room (k + 2) X.A) : CallV X cl W (.type "str") (hOwnStr c g) := fun pins s σ Hv H S ad xs us as Q I r so ra q => by
  obtain ⟨f, _, hm, F⟩ := F.ex
  unfold hOwnStr at q
  split at q
  · rename_i a
    split at q
    · rename_i hc
      obtain ⟨v, rfl, r1⟩ := rep1 ra
      obtain ⟨o, dx, fs, rfl, ho⟩ := isC_at so r1 hc
      cases r with
      | cons rx rn =>
        cases rn
        obtain rfl := rx
        obtain ⟨ox, od, J, _⟩ := StX.insC_at I (.inr ⟨dx, fs, ho⟩ : StX.InsC X H o (cl c))
        have run := run_fn2 (us := [.ref o]) (vs := [.ref o]) (Q := fun z H' => ∃ n : Str, z = .str n ∧ Q (.str n) H') F B hr I (.cons rfl .nil) (spV_of (σ := σ) so (.cons r1 .nil) (Pst.mono (Pst.bind q) fun z S1 Hv1 ad1 H1 e1 p1 s1 q1 v1 r1 => by
          unfold kStr at q1
          split at q1
          · rename_i n
            cases r1
            exact ⟨n, rfl, q1.here s1 _ .str⟩
          · exact q1.elim))
        refine PySem.W.kso_call (by have := hr.un; show X.A.units + 1 + 1 < _; omega) I.kIn J hm.at_ hm.fn (wpAny_mono run (fun z s' hz => ?_) fun _ _ y => y)
        obtain ⟨w', H', I', rv, n, rfl, q'⟩ := hz
        obtain ⟨t, rfl⟩ := rv
        exact ⟨.str n, H', I', ⟨_, rfl⟩, q'⟩
    · exact q.elim
  · exact q.elim
/-! ### o[i] -/
def hOwnIx (c : Nat) (g : List A → Store → Out A) (a b : A) (S : Store) : Out A := if isC S c a = true then g [a, b] S else .bad
theorem v_ix {value slice : Expr} (hfn : ∀ f, Meth X.K (cl c) "__getitem__" f → PySem.W.fnIn X.K f = true) (F : MtR X.prog X.w X.K X.mg X.base cl k c "__getitem__" g) (B : Bx X W) (hr : Room (k + 1) X.A)
    (hsl : ∀ o i, subscripted slice true o i = runValue (.builtin "lifetime.subscript" ⟨[o, i], []⟩)) : OpV X cl W (subscriptTail value slice) (hOwnIx c g) := fun pins s σ Hv H S ad x y v u a b Q I rx ry so ra rb q => by
  obtain ⟨f, _, hm, F⟩ := F.ex
  unfold hOwnIx at q
  split at q
  · rename_i hc
    obtain ⟨o, dx, fs, rfl, ho⟩ := isC_at so ra hc
    obtain rfl : v = Value.ref o := rx
    obtain ⟨ox, od, J, _⟩ := StX.insC_at I (.inr ⟨dx, fs, ho⟩ : StX.InsC X H o (cl c))
    have run := run_fn1 (us := [.ref o, u]) (vs := [.ref o, y]) (Q := Q) F B hr I (.cons rfl (.cons ry .nil)) (spV_of (σ := σ) so (.cons ra (.cons rb .nil)) q)
    have hf := hfn f hm
    unfold PySem.W.fnIn at hf
    split at hf
    · rename_i e
      unfold subscriptTail getitemInPython
      refine wpAny_bind (wpAny_bind (wpAny_bind (J.type.here ((PySem.W.looks_findIn I.kIn hm.at_).here ?_))))
      dsimp only
      refine wpAny_bind (wpAny_load (I.kIn _ _ e) (wpAny_pure ?_))
      dsimp only
      rw [hsl]
      refine wpAny_bind (wpAny_runValue (codeAny_builtin PySem.W.entry_sub ?_))
      unfold Builtin.«lifetime.subscript»
      refine wpAny_bind (PySem.W.special_fn I.kIn J hm.at_ (beq_iff_eq.mp hm.fn) (wpAny_mono run (fun z s' hz => ?_) fun _ _ z => z))
      refine wpAny_pure ?_
      show wpAny (model X.prog X.w) X.A (letTemporaryGo value (.ref o) z >>= fun _ => pure z) (EP X pins σ Q) X.xe s'
      exact wpAny_bind (wpAny_letTemporaryGo (wpAny_pure hz))
    · cases hf
  · exact q.elim
theorem se_ixV {a b : Expr} {pos : Pos} {fa fb : Ev A} {h : A → A → Store → Out A} (ho : OpV X cl W (subscriptTail a b) h) (ha : SE X cl W a fa) (hb : SE X cl W b fb) : SE X cl W (.Subscript a b pos) (eOp h fa fb) :=
  ⟨cE X.K cl W (eOp h fa fb), ⟨fun pins s σ H Q I z => PyProof.Rows.Subscript_ (bin_run I ho ha hb z)⟩, fun σ Hv H S ad env Q re so q => ⟨Hv, S, ad, env, re, so, q⟩⟩
/-! ### truth -/
def TrV (X : Cx) (cl : CL) (W : WX) (h : A → Store → Out Bool) : Prop :=
  ∀ (pins : List (Addr × Obj)) (s : Shared) (σ : St) (Hv H : Hp) (S : Store) (ad : List Addr) (x : V) (v : Value) (a : A) (Q : Bool → Hp → Prop), Inv X pins σ H s → RelV x v → StOk X.K cl Hv H S ad → RepA X.K cl Hv ad x a →
    Pst X.K cl W σ Hv ad (RB Q) (h a S) → wpAny (model X.prog X.w) X.A (truthy v) (fun b s' => ∃ H', Inv X pins σ H' s' ∧ Q b H') X.xe s
def kTrB (r : A) (S : Store) : Out Bool := match r with
  | .val (.bl b) => .ok b S
  | _ => .bad
def kTrL (r : A) (S : Store) : Out Bool := match r with
  | .val (.int n) => if 0 ≤ n ∧ n < 2 ^ 63 then .ok (n != 0) S else .bad
  | _ => .bad
def hOwnTrB (c : Nat) (g : List A → Store → Out A) (a : A) (S : Store) : Out Bool := if isC S c a = true then (g [a] S).bind kTrB else .bad
def hOwnTrL (c : Nat) (g : List A → Store → Out A) (a : A) (S : Store) : Out Bool := if isC S c a = true then (g [a] S).bind kTrL else .bad
theorem v_trB (F : MtR X.prog X.w X.K X.mg X.base cl k c "__bool__" g) (B : Bx X W) (hr : Room k X.A) : TrV X cl W (hOwnTrB c g) := fun pins s σ Hv H S ad x v a Q I rx so ra q => by
  obtain ⟨f, _, hm, F⟩ := F.ex
  unfold hOwnTrB at q
  split at q
  · rename_i hc
    obtain ⟨o, dx, fs, rfl, ho⟩ := isC_at so ra hc
    obtain rfl : v = Value.ref o := rx
    obtain ⟨ox, od, J, _⟩ := StX.insC_at I (.inr ⟨dx, fs, ho⟩ : StX.InsC X H o (cl c))
    have run := run_fnV (us := [.ref o]) (vs := [.ref o]) (Q := fun z H' => ∃ k : Bool, z = .bl k ∧ Q k H') F B hr I (.cons rfl .nil) (spV_of (σ := σ) so (.cons ra .nil) (Pst.mono (Pst.bind q) fun z S1 Hv1 ad1 H1 e1 p1 s1 q1 v1 r1 => by
      unfold kTrB at q1
      split at q1
      · rename_i k
        cases r1
        exact ⟨k, rfl, q1.hereB s1⟩
      · exact q1.elim))
    unfold truthy
    refine wpAny_bind (m := callSpecial? (.ref o) (Str.ofString "__bool__")) (PySem.W.special_fn I.kIn J hm.at_ (beq_iff_eq.mp hm.fn) (wpAny_mono run (fun z s' hz => ?_) fun _ _ y => y))
    obtain ⟨w', H', I', rv, k, rfl, q'⟩ := hz
    cases rv
    exact wpAny_pure ⟨H', I', q'⟩
  · exact q.elim
theorem v_trL (hno : PySem.W.findIn X.K (.ref (cl c)) "__bool__" = some none) (F : MtR X.prog X.w X.K X.mg X.base cl k c "__len__" g) (B : Bx X W) (hr : Room (k + 1) X.A) : TrV X cl W (hOwnTrL c g) := fun pins s σ Hv H S ad x v a Q I rx so ra q => by
  obtain ⟨f, _, hm, F⟩ := F.ex
  unfold hOwnTrL at q
  split at q
  · rename_i hc
    obtain ⟨o, dx, fs, rfl, ho⟩ := isC_at so ra hc
    obtain rfl : v = Value.ref o := rx
    obtain ⟨ox, od, J, _⟩ := StX.insC_at I (.inr ⟨dx, fs, ho⟩ : StX.InsC X H o (cl c))
    have run := run_fn1 (us := [.ref o]) (vs := [.ref o]) (Q := fun z H' => ∃ n : Int, z = .int n ∧ (0 ≤ n ∧ n < 2 ^ 63) ∧ Q (n != 0) H') F B hr I (.cons rfl .nil) (spV_of (σ := σ) so (.cons ra .nil) (Pst.mono (Pst.bind q) fun z S1 Hv1 ad1 H1 e1 p1 s1 q1 v1 r1 => by
      unfold kTrL at q1
      split at q1
      · rename_i n
        split at q1
        · rename_i hn
          cases r1
          exact ⟨n, rfl, hn, q1.hereB s1⟩
        · exact q1.elim
      · exact q1.elim))
    unfold truthy
    refine wpAny_bind (m := callSpecial? (.ref o) (Str.ofString "__bool__")) (wpAny_bind (wpAny_bind (J.type.here ((PySem.W.looks_findIn I.kIn hno).here (wpAny_pure ?_)))))
    refine wpAny_bind (wpAny_bind (J.type.here ((PySem.W.looks_findIn I.kIn hm.at_).here ?_)))
    rw [if_neg (by simp)]
    refine wpAny_bind (wpAny_runValue (codeAny_builtin entry_len ?_))
    unfold Builtin.«len»
    refine wpAny_bind (m := oneArg "len" _) (wpAny_pure ?_)
    refine wpAny_bind (m := callSpecial? (.ref o) (Str.ofString "__len__")) (PySem.W.special_fn I.kIn J hm.at_ (beq_iff_eq.mp hm.fn) (wpAny_mono run (fun z s' hz => ?_) fun _ _ y => y))
    obtain ⟨w', H', I', rv, n, rfl, ⟨h0, h1⟩, q'⟩ := hz
    obtain ⟨t, rfl⟩ := rv
    refine wpAny_bind (wpAny_holding (wpAny_pure ?_))
    refine wpAny_bind (wpAny_letGo ?_)
    show wpAny _ _ (if n < 0 then _ else _) _ _ _
    rw [if_neg (by omega)]
    show wpAny _ _ (if n ≥ 2 ^ 63 then _ else _) _ _ _
    rw [if_neg (by omega)]
    exact wpAny_bind (wpAny_mkInt (wpAny_pure (wpAny_pure ⟨H', I'.tok _, q'⟩)))
  · exact q.elim
end
end R


namespace R
open PySem L2
/-! ### for x in o, by o's own __iter__ (return iter(a tuple)) -/
def TiO (l it : Addr) : HO := .ext fun h => h.IsTupleIter it l 0
theorem tiO_ok {P : Program} {w : World} {H : Hp} {h : Heap} {l it : Addr} (e : h.IsTupleIter it l 0) : ObjOk P w H h it (TiO l it) :=
  let ⟨o, h1, r⟩ := e
  ⟨e, ⟨o, h1⟩, fun _ _ ⟨o, h1, r⟩ k => ⟨o, k o h1, r⟩⟩
def rIterT (K : PySem.W.Frag) (n : Nat) : List V → Hp → VK → Prop := fun xs H Q => ∃ (l : Addr) (zs : List V), xs = [.ref l] ∧ SqT K H l zs ∧ ∀ it, H it = Option.none → n ≤ it → Q (.ref it) (upd H it (TiO l it))
theorem call_iterT {X : Cx} : CallR X (.builtin "iter") (rIterT X.K X.s_0.heap.objs.size) := by
  intro pins s σ H xs us Q I r h
  obtain ⟨l, zs, rfl, hq, q⟩ := h
  obtain rfl := Vals.ref1 r
  obtain ⟨its, rv, p, hz⟩ := I.tuple hq
  refine Calls.call_function_entry (by decide +kernel) (by decide +kernel) PySem.W.kdk_entry_iter (PySem.W.kdk_args_iter _) ?_
  unfold Builtin.«iter»
  refine wpAny_bind (m := someArgs "iter" 1 2 _) (wpAny_of_eq (a := [Value.ref l]) (by first | rfl | kernel_rfl!) ?_)
  show wpAny _ _ (pyIter (.ref l) >>= _) _ _ _
  refine wpAny_bind (wpAny_pyIter_tuple (show s.heap.IsTuple l its.toArray from p) ?_)
  refine wpAny_pure ⟨_, rfl, ?_⟩
  exact ⟨.ref s.heap.objs.size, _, I.laid (t' := s.toks) (fun b u e => Heap.get?_push_of_some _ e) (Nat.le_refl _) (tiO_ok ⟨_, Heap.get?_push_size _ rfl, rfl, rfl⟩), rfl, q _ (I.hok.fresh (Nat.le_refl _)) I.sz⟩
/-- a promise that knows the size of the heap at the call -/
structure FnI (P : Program) (w : World) (K : PySem.W.Frag) (mg : Str → Option Value) (base : Heap) (k : Nat) (f : Addr) (sp : Nat → Sp) : Prop where
  run : ∀ (A : Around) (outer : List PySem.Env) (s : Shared) (H : Hp) (us : List Value) (vs : List V) (Q : VK) (E : XK), A.guards = some [] → Room k A → Env0 P w K mg base A outer s H → Vals vs us → sp s.heap.objs.size vs H Q E →
    codeAny (model P w) A (.call (.ref f) ⟨us, []⟩) (CR (L2.CX P w) outer P w H s Q E) s
def SpI (K : PySem.W.Frag) (cl : CL) (fi : A → Store → Out A) (n : Nat) : Sp := fun vs H Q _ => ∃ Hv S ad v a ds, vs = [v] ∧ RepA K cl Hv ad v a ∧ StOk K cl Hv H S ad ∧ fi a S = .ok (.val (.tup ds)) S ∧
  ∀ Hv' ad' H' l xs it, Ex Hv Hv' → Pre ad ad' → StOk K cl Hv' H' S ad' → SqT K Hv' l xs → Reps K cl Hv' xs ds → H' it = none → n ≤ it → Q (.ref it) (upd H' it (TiO l it))
section
variable {P : Program} {w : World} {K : PySem.W.Frag} {mg : Str → Option Value} {base : Heap} {x qual : Str} {params : Arguments} {scope : Scope} {kws : List (Str × V)} {f : Addr} {fd : FuncData} {cl : CL} {e : Expr} {p pos rpos : Pos} {y : Str}
theorem fnI_iter {N : List Str} {k : Nat} {fe : Ev A} (F : FunD K x qual params [.Return (some (.Call (.Name "iter" p) [e] [] pos)) rpos] scope [] kws f fd) (S : FnScope N [y] scope) (hb : Binds K fd [y] []) (hm : mg "iter" = none)
    (hgl : ∀ (cdv : Value) (A : Around) (outer : List PySem.Env) (s : Shared) (H : Hp) (E : XK), Gl (cxOf (L2.CX P w) P w K mg base N qual scope f cdv A outer s H E) "iter")
    (hst : ∀ (cdv : Value) (A : Around) (outer : List PySem.Env) (s : Shared) (H : Hp) (E : XK), starEach [e] (cxOf (L2.CX P w) P w K mg base N qual scope f cdv A outer s H E).env = (false, eval e (cxOf (L2.CX P w) P w K mg base N qual scope f cdv A outer s H E).env) :: starEach [] (cxOf (L2.CX P w) P w K mg base N qual scope f cdv A outer s H E).env)
    (he : ∀ (cdv : Value) (A : Around) (outer : List PySem.Env) (s : Shared) (H : Hp) (E : XK), Room k (A.deeper (PyProof.Rows.envOfC qual scope s.heap.objs.size f cdv)) → Bx (cxOf (L2.CX P w) P w K mg base N qual scope f cdv A outer s H E) (fun c d _ H' => E c d H') →
      SE (cxOf (L2.CX P w) P w K mg base N qual scope f cdv A outer s H E) cl (fun c d _ H' => E c d H') e fe) :
    FnI P w K mg base (k + 1) f (SpI K cl fun a S => fe (startE N.length [a]) S) := by
  obtain ⟨oc, od, dV, kV, doc, pm, an, cdv, ct, osl, rfl, lk, hcd, _, _⟩ := F.ex
  refine ⟨fun A outer s H us vs Q E hg hr e0 r hsp => ?_⟩
  obtain ⟨Hv, St, ad, v, a, ds, rfl, ra, so, hfi, hQ⟩ := hsp
  have hl : us.length = [y].length := r.length.symm
  have KX : K.In s.heap := e0.mod.kin.keeps fun b o e => (e0.bs b o e).1
  have lim : s.heap.NoLimit := e0.mod.nolimit.keeps fun b o e => (e0.bs b o e).1
  have hkind : ∀ z ∈ [y].zip us, scope.names.lookup z.1 = some .local ∨ (scope.names.lookup z.1 = some .cell ∧ ((cellsFrom (s.heap.objs.size + 1) scope.names []).lookup z.1).isSome = true) := fun z hz =>
    (S.par z.1 (List.of_mem_zip (show (z.1, z.2) ∈ [y].zip us from hz)).1).elim .inl fun q => .inr ⟨q, PySem.W.cellsFrom_some _ _ _ (.inl q)⟩
  have hbb := hb s us KX (by rw [List.append_nil]; exact hl)
  rw [List.append_nil] at hbb
  refine codeAny_call_function hr.depth (KX _ _ lk) rfl S.co S.gen rfl (PySem.W.codeRec_of KX hcd) (hbb _ _ _ _ (wpAny_newFunctionEnv_cells S.kind hkind fun env he s1 z => ?_))
  subst he
  refine ⟨lim.keeps z.toInCall.keep, codeAny_func ?_⟩
  obtain ⟨te, pe, re⟩ := (he cdv A outer s H E (hr.deeper _) ⟨takes_of rfl rfl rfl rfl, passes_of rfl, hg⟩).ex
  have pr := pss_one (ps_ret (pos := rpos) (pe_callB (X := cxOf (L2.CX P w) P w K mg base N qual scope f cdv A outer s H E) (p := p) (pos := pos) call_iterT (hgl cdv A outer s H E) hm (by decide +kernel) (pa_cons pe pa_nil (hst cdv A outer s H E)) (by decide) (by decide) (hst cdv A outer s H E) rfl))
  refine wpAny_mono (pr.run [] s1 _ H { nx := fun _ H' => Q .non H', rt := Q } (inv_start S hr.hd e0 rfl r z) (re _ Hv H St ad (startE N.length [a]) _ (start_rep (.cons ra .nil)) so ?_)) (fun fl s' hs => ?_) fun e s' hs => hs
  · rw [show fe (startE N.length [a]) St = .ok (.val (.tup ds)) St from hfi]
    intro Hv' ad' H' e1 p1 s1' v1 r1
    cases r1 with
    | tup hq rs => exact ⟨_, _, rfl, ex_t s1'.ex hq, fun it hit hn => hQ Hv' ad' H' _ _ it e1 p1 s1' hq rs hit hn⟩
  · cases fl with
    | ret u =>
      obtain ⟨v, σ', H', J, rv, q⟩ := hs
      exact ⟨v, H', J.os, J.bare, J.base, J.hok, rv, q⟩
    | next =>
      obtain ⟨σ', H', J, q⟩ := hs
      exact ⟨.non, H', J.os, J.bare, J.base, J.hok, rfl, q⟩
    | brk => exact hs.elim fun _ ⟨_, _, q⟩ => q.elim
    | cont => exact hs.elim fun _ ⟨_, _, q⟩ => q.elim
end
end R


namespace R
open PySem L2
abbrev TbI := List (Nat × (A → Store → Option (List D)))
structure ItR (P : Program) (w : World) (K : PySem.W.Frag) (mg : Str → Option Value) (base : Heap) (cl : CL) (k c : Nat) (gi : A → Store → Option (List D)) : Prop where
  ex : ∃ f fi, Meth K (cl c) "__iter__" f ∧ FnI P w K mg base k f (SpI K cl fi) ∧ ∀ a S ds, gi a S = some ds → fi a S = .ok (.val (.tup ds)) S
structure TbIOk (P : Program) (w : World) (K : PySem.W.Frag) (mg : Str → Option Value) (base : Heap) (cl : CL) (k : Nat) (tb : TbI) : Prop where
  at_ : ∀ c gi, tb.lookup c = some gi → ItR P w K mg base cl k c gi
theorem FnI.mono {P : Program} {w : World} {K : PySem.W.Frag} {mg : Str → Option Value} {base : Heap} {j k : Nat} {f : Addr} {sp : Nat → Sp} (F : FnI P w K mg base j f sp) (h : j ≤ k) : FnI P w K mg base k f sp := ⟨fun A outer s H us vs Q E gd hr => F.run A outer s H us vs Q E gd (hr.mono h)⟩
section
variable {P : Program} {w : World} {K : PySem.W.Frag} {mg : Str → Option Value} {base : Heap} {cl : CL} {j k c : Nat} {gi : A → Store → Option (List D)} {tb : TbI}
theorem tbi_nil : TbIOk P w K mg base cl k [] := ⟨fun _ _ h => by cases h⟩
theorem tbi_cons (F : ItR P w K mg base cl j c gi) (hj : j ≤ k) (r : TbIOk P w K mg base cl k tb) : TbIOk P w K mg base cl k ((c, gi) :: tb) := ⟨fun c' g' h => by
  rw [List.lookup_cons] at h
  split at h
  · rename_i e
    cases h
    obtain rfl := beq_iff_eq.mp e
    obtain ⟨f, fi, a, b, d⟩ := F.ex
    exact ⟨f, fi, a, b.mono hj, d⟩
  · exact r.at_ c' g' h⟩
end
def kSeqT (tb : TbI) (a : A) (S : Store) : Out (List D) := match objA S a with
  | some (c, _) => (match tb.lookup c with
    | some gi => (match gi a S with
      | some ds => .ok ds S
      | none => .bad)
    | none => .bad)
  | none => (match items? a with
    | some ds => .ok ds S
    | none => .bad)
def iSeqT (tb : TbI) (f : Ev A) : Ev (List D) := fun env S => (f env S).bind (kSeqT tb)
section
variable {X : Cx} {cl : CL} {W : WX} {k : Nat} {tb : TbI} {tg e : Expr} {f : Ev A}
theorem run_fnI {g : Addr} {pins : List (Addr × Obj)} {σ : St} {H : Hp} {s : Shared} {Q : VK} {us : List Value} {vs : List V} {sp : Nat → Sp} (F : FnI X.prog X.w X.K X.mg X.base k g sp) (B : Bx X W) (hr : Room k X.A) (I : Inv X pins σ H s) (r : Vals vs us) (h : sp s.heap.objs.size vs H Q (WE W σ)) :
    wpAny (model X.prog X.w) X.A (call (.ref g) us) (EP X pins σ Q) X.xe s := by
  refine wpAny_call (codeAny_mono (F.run X.A X.stack s H us vs Q (WE W σ) B.gd hr I.env0 r h) fun z s' hq => ?_)
  match z, hq with
  | .error e, hq => exact passAt B.tk σ pins H s e s' I hq
  | .ok (.ret u), hq => exact I.after hq
theorem iter_own {g C o : Addr} {ox : Obj} {od : Option Obj} {s : Shared} {Q Q1 : Value → Shared → Prop} {E : Value → Shared → Prop} {A : Around} (KX : X.K.In s.heap) (J : PySem.W.InstAt s.heap o ox C od) (hm : Meth X.K C "__iter__" g)
    (h : wpAny (model X.prog X.w) A (call (.ref g) [.ref o]) Q1 E s) (hq : ∀ v s', Q1 v s' → s'.TypeIs v "tuple_iterator" ∧ Q v s') : wpAny (model X.prog X.w) A (pyIter (.ref o)) Q E s := by
  have one : ∀ refuse : Sem Value, wpAny (model X.prog X.w) A (callSpecialIfBoundUnlessNone? (.ref o) "__iter__" refuse) (fun r s' => ∃ v, r = some v ∧ Q1 v s') E s := by
    intro refuse
    simp only [callSpecialIfBoundUnlessNone?, bindSpecialIfBound?]
    refine wpAny_holding (wpAny_bind (wpAny_bind (wpAny_bind (J.type.here ((PySem.W.looks_findIn KX hm.at_).here ?_)))))
    refine wpAny_bind (wpAny_askSetting (wpAny_ite ?_))
    have fin2 : wpAny (model X.prog X.w) A (if (Value.ref g == Value.none) = true then (refuse >>= fun v => pure (some v)) else (call (.ref g) [.ref o] >>= fun v => pure (some v))) (fun r s' => ∃ v, r = some v ∧ Q1 v s') E s := by
      rw [if_neg (show ¬ ((Value.ref g == Value.none) = true) from Bool.false_ne_true)]
      exact wpAny_bind (wpAny_mono h (fun v s' h' => wpAny_pure ⟨v, rfl, h'⟩) fun _ _ z => z)
    split
    · exact wpAny_bind ((PySem.W.bind_fn KX _ (beq_iff_eq.mp hm.fn)).here (wpAny_pure (by exact fin2)))
    · exact wpAny_tryCatch (wpAny_bind ((PySem.W.bind_fn KX _ (beq_iff_eq.mp hm.fn)).here (wpAny_pure (by exact fin2))))
  unfold pyIter
  refine wpAny_bind (wpAny_bind (J.type.here ((PySem.W.looks_findIn KX hm.at_).here ?_)))
  show wpAny (model X.prog X.w) A (callSpecialIfBoundUnlessNone? (.ref o) "__iter__" _ >>= _) Q E s
  refine wpAny_bind (wpAny_mono (one _) (fun r s' hr => ?_) fun _ _ z => z)
  obtain ⟨v, rfl, hv⟩ := hr
  obtain ⟨ht, hq'⟩ := hq v s' hv
  exact wpAny_bind (wpAny_specialOf ht PySem.F.slot_tuple_iterator_next.lookup (wpAny_pure hq'))
theorem si_seqT (TB : TbIOk X.prog X.w X.K X.mg X.base cl k tb) (B : Bx X W) (hr : Room k X.A) (h : SE X cl W e f) : SI X cl W tg e (iSeqT tb f) := by
  obtain ⟨te, pe, re⟩ := h.ex
  refine ⟨cI X.K cl W (iSeqT tb f), ⟨fun pins s σ H R I z => ?_⟩, fun σ Hv H S ad env R re so q => ⟨Hv, S, ad, env, re, so, q⟩⟩
  obtain ⟨Hv, S, ad, env, rn, so, q⟩ := z
  refine wpAny_mono (pe.run pins s σ H (fun x H1 => ∃ S1 Hv1 ad1 a, StOk X.K cl Hv1 H1 S1 ad1 ∧ RepA X.K cl Hv1 ad1 x a ∧ Pst X.K cl W σ Hv1 ad1 (fun ds _ Hv' _ H' => ∀ J, WalkOk X.K cl J ds Hv' → R J H') (kSeqT tb a S1)) I
    (re σ Hv H S ad env _ rn so (Pst.mono (Pst.bind q) fun a S1 Hv1 ad1 H1 e1 p1 s1 q1 v1 r1 => ⟨S1, Hv1, ad1, a, s1, r1, q1⟩))) (fun v s1 hv => ?_) fun _ _ z => z
  obtain ⟨x, H1, I1, rx, S1, Hv1, ad1, a, s1', r1, q1⟩ := hv
  unfold kSeqT at q1
  split at q1
  · rename_i c ns eo
    split at q1
    · rename_i gi eg
      split at q1
      · rename_i ds ed
        obtain ⟨o, dx, fs, rfl, ho, _⟩ := obj_at s1' r1 eo
        obtain rfl : v = Value.ref o := rx
        obtain ⟨g, fi, hm, F, hfi⟩ := (TB.at_ c gi eg).ex
        obtain ⟨ox, od, J, _⟩ := StX.insC_at I1 (.inr ⟨dx, fs, ho⟩ : StX.InsC X H1 o (cl c))
        have run := run_fnI (us := [.ref o]) (vs := [.ref o]) (Q := fun z H2 => ∃ it l H' Hv' ad' xs, z = .ref it ∧ H2 = upd H' it (TiO l it) ∧ H' it = none ∧ s1.heap.objs.size ≤ it ∧ Ex Hv1 Hv' ∧ Pre ad1 ad' ∧ StOk X.K cl Hv' H' S1 ad' ∧ SqT X.K Hv' l xs ∧ Reps X.K cl Hv' xs ds) F B hr I1 (.cons rfl .nil)
          ⟨Hv1, S1, ad1, _, a, ds, rfl, r1, s1', hfi a S1 ds ed, fun Hv' ad' H' l xs it e1 p1 s2 hq rs hn hle => ⟨it, l, H', Hv', ad', xs, rfl, rfl, hn, hle, e1, p1, s2, hq, rs⟩⟩
        refine iter_own I1.kIn J hm run fun z s' hz => ?_
        obtain ⟨zv, H2, I2, rz, it, l, H', Hv', ad', xs, rfl, rfl, hn, hle, e1, p1, s2, hq, rs⟩ := hz
        obtain rfl : z = Value.ref it := rz
        have hti : s'.heap.IsTupleIter it l 0 := (I2.hok it _ upd_same).1
        refine ⟨hti.typeIs, it, [it], _, Itt X.K l, H', rfl, ?_, turn_tuple l it, hti, fun b hb => ?_, ?_⟩
        · have I3 := ItX.inv_drop I2 (upd_same (H := H') (a := it) (o := TiO l it))
          rw [ItX.dropH_upd hn] at I3
          exact I3
        · obtain rfl : b = it := by simpa using hb
          have f1 := ItX.inv_fp I2 (upd_same (H := H') (a := b) (o := TiO l b)) (Nat.le_trans I1.sz hle)
          rw [ItX.dropH_upd hn] at f1
          exact f1
        · exact q1 Hv' ad' H' e1 p1 s2 _ (walk_tup hq rs)
      · exact q1.elim
    · exact q1.elim
  · split at q1
    · rename_i ds ei
      cases a with
      | loc n => cases ei
      | fv k => cases ei
      | val d =>
        cases d with
        | lst ds' =>
          cases ei
          cases r1 with
          | lst hl rs =>
            obtain rfl := rx
            obtain ⟨its, rv, p, hz⟩ := I1.list (ex_l s1'.ex (.inl (.inl hl)))
            refine wpAny_pyIter_list p.isList ?_
            refine ⟨s1.heap.objs.size, [s1.heap.objs.size], _, _, H1, rfl, I1.kept (t' := s1.toks) fun b o e => Heap.get?_push_of_some _ e, turn_list _ _, ⟨_, Heap.get?_push_size _ rfl, rfl, rfl⟩, fun b hb => ?_, q1 Hv1 ad1 H1 (Ex.refl _) (Pre.refl _) s1' _ (walk_list (.inl (.inl hl)) rs)⟩
            obtain rfl : b = s1.heap.objs.size := by simpa using hb
            exact I1.fpOk (Nat.le_refl _) (I1.hok.fresh (Nat.le_refl _))
        | tup ds' =>
          cases ei
          cases r1 with
          | tup hl rs =>
            obtain rfl := rx
            obtain ⟨its, rv, p, hz⟩ := I1.tuple (ex_t s1'.ex hl)
            refine wpAny_pyIter_tuple (show s1.heap.IsTuple _ its.toArray from p) ?_
            refine ⟨s1.heap.objs.size, [s1.heap.objs.size], _, _, H1, rfl, I1.kept (t' := s1.toks) fun b o e => Heap.get?_push_of_some _ e, turn_tuple _ _, ⟨_, Heap.get?_push_size _ rfl, rfl, rfl⟩, fun b hb => ?_, q1 Hv1 ad1 H1 (Ex.refl _) (Pre.refl _) s1' _ (walk_tup hl rs)⟩
            obtain rfl : b = s1.heap.objs.size := by simpa using hb
            exact I1.fpOk (Nat.le_refl _) (I1.hok.fresh (Nat.le_refl _))
        | _ => cases ei
    · exact q1.elim
end
end R


namespace R
open PySem L2
open PyProof.Rows (subscriptTail)
/-! ### tables: own methods of one name, by class -/
abbrev Tb := List (Nat × (List A → Store → Out A))
structure TbOk (P : Program) (w : World) (K : PySem.W.Frag) (mg : Str → Option Value) (base : Heap) (cl : CL) (t : CtT) (k : Nat) (m : Str) (tb : Tb) : Prop where
  at_ : ∀ c g, tb.lookup c = some g → MtR P w K mg base cl k c m g ∧ OwK t K cl c
section
variable {P : Program} {w : World} {K : PySem.W.Frag} {mg : Str → Option Value} {base : Heap} {cl : CL} {t : CtT} {j k c : Nat} {m : Str} {g : List A → Store → Out A} {tb : Tb}
theorem tb_nil : TbOk P w K mg base cl t k m [] := ⟨fun _ _ h => by cases h⟩
theorem tb_cons (F : MtR P w K mg base cl j c m g) (O : OwK t K cl c) (hj : j ≤ k) (r : TbOk P w K mg base cl t k m tb) : TbOk P w K mg base cl t k m ((c, g) :: tb) := ⟨fun c' g' h => by
  rw [List.lookup_cons] at h
  split at h
  · rename_i e
    cases h
    obtain rfl := beq_iff_eq.mp e
    exact ⟨F.mono hj, O⟩
  · exact r.at_ c' g' h⟩
end
/-- by the class of the left | of the right one; else h0 -/
def hTbL (tb : Tb) (hO : Nat → (List A → Store → Out A) → A → A → Store → Out A) (h0 : A → A → Store → Out A) (a b : A) (S : Store) : Out A := match objA S a with
  | some (c, _) => (match tb.lookup c with
    | some g => hO c g a b S
    | none => .bad)
  | none => h0 a b S
def hTbR (tb : Tb) (hO : Nat → (List A → Store → Out A) → A → A → Store → Out A) (h0 : A → A → Store → Out A) (a b : A) (S : Store) : Out A := match objA S b with
  | some (c, _) => (match tb.lookup c with
    | some g => hO c g a b S
    | none => .bad)
  | none => h0 a b S
def hTbU (tb : Tb) (hO : Nat → (List A → Store → Out A) → A → Store → Out A) (h0 : A → Store → Out A) (a : A) (S : Store) : Out A := match objA S a with
  | some (c, _) => (match tb.lookup c with
    | some g => hO c g a S
    | none => .bad)
  | none => h0 a S
def hTbC (tb : Tb) (hO : Nat → (List A → Store → Out A) → List A → Store → Out A) (h0 : List A → Store → Out A) (as : List A) (S : Store) : Out A := match as with
  | [a] => (match objA S a with
    | some (c, _) => (match tb.lookup c with
      | some g => hO c g [a] S
      | none => .bad)
    | none => h0 [a] S)
  | as => h0 as S
section
variable {X : Cx} {cl : CL} {W : WX} {k : Nat} {tb : Tb} {t : CtT}
theorem opV_tbL {f : Value → Value → Sem Value} {hO : Nat → (List A → Store → Out A) → A → A → Store → Out A} {h0 : A → A → Store → Out A} (a0 : OpV X cl W f h0) (aO : ∀ c g, tb.lookup c = some g → OpV X cl W f (hO c g)) : OpV X cl W f (hTbL tb hO h0) := fun pins s σ Hv H S ad x y v u a b Q I rx ry so ra rb q => by
  unfold hTbL at q
  split at q
  · split at q
    · rename_i g e
      exact aO _ g e pins s σ Hv H S ad x y v u a b Q I rx ry so ra rb q
    · exact q.elim
  · exact a0 pins s σ Hv H S ad x y v u a b Q I rx ry so ra rb q
theorem opV_tbR {f : Value → Value → Sem Value} {hO : Nat → (List A → Store → Out A) → A → A → Store → Out A} {h0 : A → A → Store → Out A} (a0 : OpV X cl W f h0) (aO : ∀ c g, tb.lookup c = some g → OpV X cl W f (hO c g)) : OpV X cl W f (hTbR tb hO h0) := fun pins s σ Hv H S ad x y v u a b Q I rx ry so ra rb q => by
  unfold hTbR at q
  split at q
  · split at q
    · rename_i g e
      exact aO _ g e pins s σ Hv H S ad x y v u a b Q I rx ry so ra rb q
    · exact q.elim
  · exact a0 pins s σ Hv H S ad x y v u a b Q I rx ry so ra rb q
theorem unV_tb {f : Value → Sem Value} {hO : Nat → (List A → Store → Out A) → A → Store → Out A} {h0 : A → Store → Out A} (a0 : UnV X cl W f h0) (aO : ∀ c g, tb.lookup c = some g → UnV X cl W f (hO c g)) : UnV X cl W f (hTbU tb hO h0) := fun pins s σ Hv H S ad x v a Q I rx so ra q => by
  unfold hTbU at q
  split at q
  · split at q
    · rename_i g e
      exact aO _ g e pins s σ Hv H S ad x v a Q I rx so ra q
    · exact q.elim
  · exact a0 pins s σ Hv H S ad x v a Q I rx so ra q
theorem callV_tb {f : Value} {hO : Nat → (List A → Store → Out A) → List A → Store → Out A} {h0 : List A → Store → Out A} (a0 : CallV X cl W f h0) (aO : ∀ c g, tb.lookup c = some g → CallV X cl W f (hO c g)) : CallV X cl W f (hTbC tb hO h0) := fun pins s σ Hv H S ad xs us as Q I r so ra q => by
  unfold hTbC at q
  split at q
  · split at q
    · split at q
      · rename_i g e
        exact aO _ g e pins s σ Hv H S ad xs us _ Q I r so ra q
      · exact q.elim
    · exact a0 pins s σ Hv H S ad xs us _ Q I r so ra q
  · exact a0 pins s σ Hv H S ad xs us as Q I r so ra q
theorem unV_of {f : Value → Sem Value} {h : A → Store → Out A} (ho : ∃ r, UnR X f r ∧ RdU X.K cl W r h) : UnV X cl W f h := fun pins s σ Hv H S ad x v a Q I rx so ra q =>
  let ⟨_, h1, h2⟩ := ho
  h1 pins s σ H x v Q I rx (h2 σ Hv H S ad x a Q so ra q)
theorem unV_bad {f : Value → Sem Value} : UnV X cl W f (fun _ _ => .bad) := fun pins s σ Hv H S ad x v a Q I rx so ra q => q.elim
theorem opV_bad {f : Value → Value → Sem Value} : OpV X cl W f (fun _ _ _ => .bad) := fun pins s σ Hv H S ad x y v u a b Q I rx ry so ra rb q => q.elim
theorem callV_bad {f : Value} : CallV X cl W f (fun _ _ => .bad) := fun pins s σ Hv H S ad xs us as Q I r so ra q => q.elim
/-! the rules -/
theorem tv_eq (T : CtOk t X.K cl) (TB : TbOk X.prog X.w X.K X.mg X.base cl t k "__eq__" tb) (B : Bx X W) (hr : Room k X.A) : OpV X cl W (compareOp .Eq) (hTbL tb (hOwnCmp t) hEq) :=
  opV_tbL (opV_of (o_eq hr.units)) fun c g h => v_cmp (op := .Eq) T (TB.at_ c g h).2 (TB.at_ c g h).1 B hr fun _ _ => rfl
theorem tv_cmp {op : CmpOp} {m : Str} {h0 : A → A → Store → Out A} (o0 : ∃ r, OpR X (compareOp op) r ∧ RdO X.K cl W r h0) (T : CtOk t X.K cl) (TB : TbOk X.prog X.w X.K X.mg X.base cl t k m tb) (B : Bx X W) (hr : Room k X.A) (hm : m = (cmpInfo op).2.1 := by rfl) (hop : ∀ v u, compareOp op v u = richCompare op v u := by intro _ _; rfl) : OpV X cl W (compareOp op) (hTbL tb (hOwnCmp t) h0) :=
  opV_tbL (opV_of o0) fun c g h => v_cmp (op := op) T (TB.at_ c g h).2 (hm ▸ (TB.at_ c g h).1) B hr hop
theorem tv_ne (hne : ∀ c g, tb.lookup c = some g → PySem.W.findIn X.K (.ref (cl c)) "__ne__" = some (some (.builtin "object.__ne__"))) (T : CtOk t X.K cl) (TB : TbOk X.prog X.w X.K X.mg X.base cl t k "__eq__" tb) (B : Bx X W) (hr : Room (k + 1) X.A) : OpV X cl W (compareOp .NotEq) (hTbL tb (hOwnNe t) hNe) :=
  opV_tbL (opV_of (o_ne hr.units)) fun c g h => v_ne T (TB.at_ c g h).2 (hne c g h) (TB.at_ c g h).1 B hr
theorem tv_in (TB : TbOk X.prog X.w X.K X.mg X.base cl t k "__contains__" tb) (B : Bx X W) (hr : Room k X.A) : OpV X cl W (compareOp .In) (hTbR tb hOwnIn hIn) :=
  opV_tbR (opV_of (o_in (room65 hr))) fun c g h => v_in (TB.at_ c g h).1 B hr
theorem tv_len (TB : TbOk X.prog X.w X.K X.mg X.base cl t k "__len__" tb) (B : Bx X W) (hr : Room (k + 1) X.A) : CallV X cl W (.builtin "len") (hTbC tb hOwnLen hLen) :=
  callV_tb (callV_of b_len) fun c g h => v_len (TB.at_ c g h).1 B hr
theorem tv_inv (TB : TbOk X.prog X.w X.K X.mg X.base cl t k "__invert__" tb) (B : Bx X W) (hr : Room k X.A) : UnV X cl W (unaryOp .Invert) (hTbU tb hOwnUn fun _ _ => .bad) :=
  unV_tb unV_bad fun c g h => v_inv (TB.at_ c g h).1 B hr
theorem tv_neg (TB : TbOk X.prog X.w X.K X.mg X.base cl t k "__neg__" tb) (B : Bx X W) (hr : Room k X.A) : UnV X cl W (unaryOp .USub) (hTbU tb hOwnUn hNeg) :=
  unV_tb (unV_of u_neg) fun c g h => v_neg (TB.at_ c g h).1 B hr
/-! judgements by such -/
variable {a : Expr} {pos : Pos} {fa : Ev A}
theorem se_unV {op : UnaryOp} {h : A → Store → Out A} (ho : UnV X cl W (unaryOp op) h) (ha : SE X cl W a fa) (hop : op ≠ .Not := by decide) : SE X cl W (.UnaryOp op a pos) (eUn h fa) := by
  obtain ⟨ta, pa, ra⟩ := ha.ex
  refine ⟨cE X.K cl W (eUn h fa), ⟨fun pins s σ H Q I z => ?_⟩, fun σ Hv H S ad env Q re so q => ⟨Hv, S, ad, env, re, so, q⟩⟩
  obtain ⟨Hv, S, ad, env, rn, so, q⟩ := z
  have key := pa.run pins s σ H (fun x H1 => ∃ S1 Hv1 ad1 a, StOk X.K cl Hv1 H1 S1 ad1 ∧ RepA X.K cl Hv1 ad1 x a ∧ Pst X.K cl W σ Hv1 ad1 (RA X.K cl Q) (h a S1)) I
    (ra σ Hv H S ad env _ rn so (Pst.mono (Pst.bind q) fun a S1 Hv1 ad1 H1 e1 p1 s1 q1 v1 r1 => ⟨S1, Hv1, ad1, a, s1, r1, q1⟩))
  refine wpAny_UnaryOp (wpAny_mono key (fun v s1 hv => ?_) fun _ _ z => z)
  obtain ⟨x, H1, I1, rx, S1, Hv1, ad1, a, s1', r1, q1⟩ := hv
  exact ho pins s1 σ Hv1 H1 S1 ad1 x v a Q I1 rx s1' r1 q1
end
end R


namespace R
open PySem L2
/-! ### o op x, o op= x by o's own method, x of a built-in type or of any own class -/
/-- what an own class has for an operator: a function for its name (and one or none for the reflected one), or neither -/
structure OpC (K : PySem.W.Frag) (C : Addr) (nm : String) (b : Bool) : Prop where
  cd : ∃ cd, PySem.W.clsIn K C = some cd ∧ cd.mro = [.ref C, .type "object"]
  has : b = true → ∃ f, PySem.W.findIn K (.ref C) (dunder nm) = some (some (.ref f))
  no : b = false → PySem.W.findIn K (.ref C) (dunder nm) = some none ∧ PySem.W.findIn K (.ref C) (dunderR nm) = some none
  rf : PySem.W.findIn K (.ref C) (dunderR nm) = some none ∨ ∃ f, PySem.W.findIn K (.ref C) (dunderR nm) = some (some (.ref f))
def isRefO : Option (Option Value) → Bool
  | some (some (.ref _)) => true
  | _ => false
theorem isRefO_ok {o : Option (Option Value)} (h : isRefO o = true) : ∃ f, o = some (some (.ref f)) := by
  unfold isRefO at h
  split at h
  · exact ⟨_, rfl⟩
  · cases h
def opcB (K : PySem.W.Frag) (C : Addr) (nm : String) : Bool := (match PySem.W.clsIn K C with
  | some cd => decide (cd.mro = [.ref C, .type "object"])
  | none => false) && ((isRefO (PySem.W.findIn K (.ref C) (dunder nm)) || (decide (PySem.W.findIn K (.ref C) (dunder nm) = some none) && decide (PySem.W.findIn K (.ref C) (dunderR nm) = some none))) &&
    (decide (PySem.W.findIn K (.ref C) (dunderR nm) = some none) || isRefO (PySem.W.findIn K (.ref C) (dunderR nm))))
theorem opcB_ok {K : PySem.W.Frag} {C : Addr} {nm : String} (h : opcB K C nm = true) : ∃ b, OpC K C nm b := by
  obtain ⟨h1, h⟩ := Bool.and_eq_true_iff.mp h
  obtain ⟨h2, h3⟩ := Bool.and_eq_true_iff.mp h
  have hcd : ∃ cd, PySem.W.clsIn K C = some cd ∧ cd.mro = [.ref C, .type "object"] := by
    split at h1
    · rename_i cd e
      exact ⟨cd, e, of_decide_eq_true h1⟩
    · cases h1
  have hrf : PySem.W.findIn K (.ref C) (dunderR nm) = some none ∨ ∃ f, PySem.W.findIn K (.ref C) (dunderR nm) = some (some (.ref f)) := (Bool.or_eq_true_iff.mp h3).elim (fun z => .inl (of_decide_eq_true z)) fun z => .inr (isRefO_ok z)
  rcases Bool.or_eq_true_iff.mp h2 with z | z
  · exact ⟨true, hcd, fun _ => isRefO_ok z, (fun e => by cases e), hrf⟩
  · obtain ⟨z1, z2⟩ := Bool.and_eq_true_iff.mp z
    exact ⟨false, hcd, (fun e => by cases e), fun _ => ⟨of_decide_eq_true z1, of_decide_eq_true z2⟩, hrf⟩
section
variable {prog : Program} {w : World} {A : Around} {E : Value → Shared → Prop} {h : Heap} {s : Shared} {K : PySem.W.Frag} {x C C' f : Addr} {ox : Obj} {od : Option Obj} {nm : String}
theorem obj_no (M : Model) (nm : String) (ho : fillsNumberSlot (.type "object") nm = pure false) : PySem.W.Looks M h (fillsNumberSlot (.type "object") nm) false := PySem.W.Looks.of_pure ho
theorem fills_opC {M : Model} {b : Bool} (X : K.In h) (c : OpC K C nm b) (ho : typeLookup (.type "object") (dunder nm) = pure none) (ho' : typeLookup (.type "object") (dunderR nm) = pure none) : PySem.W.Looks M h (fillsNumberSlot (.ref C) nm) b := by
  obtain ⟨cd, hcd, hm⟩ := c.cd
  cases b with
  | true =>
    obtain ⟨f, hf⟩ := c.has rfl
    exact PySem.W.fills_K X hcd hm hf
  | false =>
    obtain ⟨h1, h2⟩ := c.no rfl
    intro A Q E s k q
    unfold fillsNumberSlot
    refine wpAny_bind ((PySem.W.looks_clsIn X hcd).andThen (f := fun cd => pure cd.mro) .now A _ E s k ?_)
    rw [hm, List.anyM_cons]
    refine wpAny_bind ?_
    show wpAny M A (List.anyM _ [dunder nm, dunderR nm]) _ _ _
    rw [List.anyM_cons]
    refine wpAny_bind (wpAny_bind (PySem.W.looks_findIn X h1 A _ E s k ?_))
    refine wpAny_pure ?_
    simp only [Bool.false_eq_true, if_false]
    rw [List.anyM_cons]
    refine wpAny_bind (wpAny_bind (PySem.W.looks_findIn X h2 A _ E s k ?_))
    refine wpAny_pure ?_
    simp only [Bool.false_eq_true, if_false]
    rw [List.anyM_nil]
    refine wpAny_pure ?_
    simp only [Bool.false_eq_true, if_false]
    rw [List.anyM_cons]
    refine wpAny_bind ?_
    show wpAny M A (typeLookup (.type "object") (dunder nm) >>= _) _ _ _
    rw [ho]
    refine wpAny_bind (wpAny_pure ?_)
    rw [ho']
    refine wpAny_bind (wpAny_pure (wpAny_pure ?_))
    simp only [Option.isSome_none, Bool.false_and, Bool.or_self, Bool.false_eq_true, if_false]
    rw [List.anyM_nil]
    exact wpAny_pure q
theorem inpy_opC {M : Model} (X : K.In h) (c : OpC K C nm true) : PySem.W.Looks M h (numberSlotInPython (.ref C) nm) true := by
  obtain ⟨f, hf⟩ := c.has rfl
  unfold numberSlotInPython
  refine (PySem.W.looks_findIn X hf).andThen ?_
  refine PySem.W.Looks.andThen (a := true) .now ?_
  rcases c.rf with hR | ⟨fr, hR⟩
  · refine (PySem.W.looks_findIn X hR).andThen ?_
    exact PySem.W.Looks.andThen (a := false) .now .now
  · refine (PySem.W.looks_findIn X hR).andThen ?_
    exact PySem.W.Looks.andThen (a := true) .now .now
/-- by a right operand of type tb, known by: tb is C, or tb does not fill the slot, or it does and is no subtype -/
theorem b1_own {b : Value} {tb : Value} {Q : Option Value → Shared → Prop} (X : K.In s.heap) (I : PySem.W.InstAt s.heap x ox C od) (hb : PySem.W.Looks (model prog w) s.heap (typeOf b) tb) (c : OpC K C nm true) (ho : typeLookup (.type "object") (dunder nm) = pure none) (ho' : typeLookup (.type "object") (dunderR nm) = pure none)
    (hs : PySem.W.findIn K (.ref C) (dunder nm) = some (some (.ref f))) (hf : PySem.W.isFn K (.ref f) = true)
    (hR : tb = .ref C ∨ PySem.W.Looks (model prog w) s.heap (fillsNumberSlot tb nm) false ∨ (PySem.W.Looks (model prog w) s.heap (fillsNumberSlot tb nm) true ∧ PySem.W.subIn K tb (.ref C) = some false ∧ (PySem.W.Looks (model prog w) s.heap (numberSlotInPython tb nm) true ∨ (PySem.W.Looks (model prog w) s.heap (numberSlotInPython tb nm) false ∧ ∃ tk, typeLookup tb (dunderR nm) = pure tk))))
    (h : wpAny (model prog w) A (call (.ref f) [.ref x, b]) (PySem.W.CmpBack fun v => Q (some v)) E s) : wpAny (model prog w) A (binaryOp1 nm (.ref x) b) Q E s := by
  have ftr : PySem.W.Looks (model prog w) s.heap (fillsNumberSlot (.ref C) nm) true := fills_opC X c ho ho'
  have main : wpAny (model prog w) A (tryMethod (.ref x) (dunder nm) b) (fun r s' => ∃ v, r = some v ∧ Q (some v) s') E s := by
    unfold tryMethod
    refine wpAny_bind (PySem.W.special_fn X I hs (beq_iff_eq.mp hf) (wpAny_mono h (fun v s' hv => ?_) fun _ _ e => e))
    cases v <;> first | exact hv.elim | exact wpAny_pure ⟨_, rfl, hv⟩
  unfold binaryOp1
  refine wpAny_bind (I.type.here (wpAny_bind (hb.here (wpAny_bind (ftr.here ?_)))))
  rcases hR with rfl | hF | ⟨hT, hsub, hpy⟩
  · simp only [beq_self_eq_true, if_true]
    refine wpAny_bind (wpAny_pure ?_)
    simp only [Bool.and_false, Bool.false_eq_true, if_false, Bool.false_and]
    refine wpAny_bind (wpAny_pure ?_)
    simp only [Bool.false_eq_true, if_false]
    refine wpAny_bind (wpAny_mono main (fun r s' hr => ?_) fun _ _ e => e)
    obtain ⟨v, rfl, q⟩ := hr
    exact wpAny_pure q
  · have fin : wpAny (model prog w) A (tryMethod (.ref x) (dunder nm) b) (fun r s' => ∃ v, r = some v ∧ Q (some v) s') E s := main
    by_cases e : (Value.ref C == tb) = true
    · rw [if_pos e]
      refine wpAny_bind (wpAny_pure ?_)
      simp only [Bool.and_false, Bool.false_eq_true, if_false, Bool.false_and]
      refine wpAny_bind (wpAny_pure ?_)
      simp only [Bool.false_eq_true, if_false]
      refine wpAny_bind (wpAny_mono main (fun r s' hr => ?_) fun _ _ e => e)
      obtain ⟨v, rfl, q⟩ := hr
      exact wpAny_pure q
    · rw [if_neg e]
      refine wpAny_bind (hF.here ?_)
      simp only [Bool.and_false, Bool.false_eq_true, if_false, Bool.false_and]
      refine wpAny_bind (wpAny_pure ?_)
      simp only [Bool.false_eq_true, if_false]
      refine wpAny_bind (wpAny_mono main (fun r s' hr => ?_) fun _ _ e => e)
      obtain ⟨v, rfl, q⟩ := hr
      exact wpAny_pure q
  · by_cases e : (Value.ref C == tb) = true
    · rw [if_pos e]
      refine wpAny_bind (wpAny_pure ?_)
      simp only [Bool.and_false, Bool.false_eq_true, if_false, Bool.false_and]
      refine wpAny_bind (wpAny_pure ?_)
      simp only [Bool.false_eq_true, if_false]
      refine wpAny_bind (wpAny_mono main (fun r s' hr => ?_) fun _ _ e => e)
      obtain ⟨v, rfl, q⟩ := hr
      exact wpAny_pure q
    · rw [if_neg e]
      refine wpAny_bind (hT.here ?_)
      simp only [Bool.and_self, if_true]
      refine wpAny_bind ((PySem.W.looks_subIn X hsub).here ?_)
      simp only [Bool.false_eq_true, if_false, Bool.not_false, Bool.and_self, if_true]
      refine wpAny_bind ((inpy_opC X c).here ?_)
      simp only [if_true]
      rcases hpy with hpy | ⟨hpy, tk, htk⟩
      · refine wpAny_bind (hpy.here ?_)
        simp only [Bool.not_true, Bool.false_eq_true, if_false]
        refine wpAny_bind (wpAny_mono main (fun r s' hr => ?_) fun _ _ e => e)
        obtain ⟨v, rfl, q⟩ := hr
        exact wpAny_pure q
      · refine wpAny_bind (hpy.here ?_)
        simp only [Bool.not_false, if_true]
        refine wpAny_bind (m := typeLookup tb (dunderR nm)) ?_
        rw [htk]
        refine wpAny_pure (wpAny_bind (wpAny_mono main (fun r s' hr => ?_) fun _ _ e => e))
        obtain ⟨v, rfl, q⟩ := hr
        exact wpAny_pure q
end
end R
namespace R
open PySem L2
/-- an operator: which built-in types fill its slot -/
structure OpN (nm : String) (nb : String → Bool) : Prop where
  fl : ∀ T ∈ baseTys, fillsNumberSlot (.type T) nm = pure (nb T)
  tk : ∀ T ∈ baseTys, nb T = true → ∃ tk, typeLookup (.type T) (dunderR nm) = pure tk
  o1 : typeLookup (.type "object") (dunder nm) = pure none
  o2 : typeLookup (.type "object") (dunderR nm) = pure none
  o3 : typeLookup (.type "object") (dunderI nm) = pure none
def opT (t : CtT) (K : PySem.W.Frag) (cl : CL) (nm : String) : Bool := (List.range t.n).all fun c => t.exc c || (opcB K (cl c) nm && decide (PySem.W.findIn K (.ref (cl c)) (dunderI nm) = some none))
structure OpT (t : CtT) (K : PySem.W.Frag) (cl : CL) (nm : String) : Prop where
  at_ : ∀ c, c < t.n → t.exc c = false → (∃ b, OpC K (cl c) nm b) ∧ PySem.W.findIn K (.ref (cl c)) (dunderI nm) = some none
theorem opT_ok {t : CtT} {K : PySem.W.Frag} {cl : CL} {nm : String} (h : opT t K cl nm = true) : OpT t K cl nm := ⟨fun c hc he => by
  have z := List.all_eq_true.mp h c (List.mem_range.mpr hc)
  rw [he, Bool.false_or] at z
  obtain ⟨z1, z2⟩ := Bool.and_eq_true_iff.mp z
  exact ⟨opcB_ok z1, of_decide_eq_true z2⟩⟩
def okB (t : CtT) (S : Store) (b : A) : Bool := match tagA t S b with
  | some (.b T) => decide (T ∈ baseTys)
  | some (.o c') => decide (c' < t.n) && !t.exc c'
  | none => false
def hOwnB (t : CtT) (c : Nat) (g : List A → Store → Out A) (a b : A) (S : Store) : Out A := if (isC S c a = true ∧ okB t S b = true) ∧ c < t.n ∧ t.exc c = false then noNI (g [a, b] S) else .bad
section
variable {X : Cx} {cl : CL} {W : WX} {k c : Nat} {g : List A → Store → Out A} {t : CtT} {op : Operator} {nb : String → Bool}
theorem b1_run (N : OpN op.info.2 nb) (Z : OpT t X.K cl op.info.2) (T : CtOk t X.K cl) (O : OwK t X.K cl c) (F : MtR X.prog X.w X.K X.mg X.base cl k c (PySem.dunder op.info.2) g) (B : Bx X W) (hr : Room k X.A)
    {pins : List (Addr × Obj)} {s : Shared} {σ : St} {Hv H : Hp} {S : Store} {ad : List Addr} {x y : V} {v u : Value} {a b : A} {Q : VK} (I : Inv X pins σ H s) (rx : RelV x v) (ry : RelV y u) (so : StOk X.K cl Hv H S ad) (ra : RepA X.K cl Hv ad x a) (rb : RepA X.K cl Hv ad y b)
    (q : Pst X.K cl W σ Hv ad (RA X.K cl Q) (hOwnB t c g a b S)) :
    wpAny (model X.prog X.w) X.A (binaryOp1 op.info.2 v u) (fun r s' => ∃ z, r = some z ∧ EP X pins σ Q z s') X.xe s ∧ ∃ o ox od, v = .ref o ∧ PySem.W.InstAt s.heap o ox (cl c) od ∧ c < t.n ∧ t.exc c = false := by
  obtain ⟨f, _, hm, F⟩ := F.ex
  unfold hOwnB at q
  split at q
  · rename_i hc
    obtain ⟨⟨hc, hB⟩, hcn, hce⟩ := hc
    obtain ⟨o, dx, fs, rfl, ho⟩ := isC_at so ra hc
    obtain rfl : v = Value.ref o := rx
    obtain ⟨ox, od, J, _⟩ := StX.insC_at I (.inr ⟨dx, fs, ho⟩ : StX.InsC X H o (cl c))
    have run := run_fnV (us := [.ref o, u]) (vs := [.ref o, y]) (Q := fun z H' => (∀ u, RelV z u → u ≠ .notImplemented) ∧ Q z H') F B hr I (.cons rfl (.cons ry .nil)) (spV_of (σ := σ) so (.cons ra (.cons rb .nil)) ((noFv_pst q).mono fun r S1 Hv1 ad1 H1 e1 p1 s1 q1 v1 r1 => ⟨fun u hu => not_ni r1 hu, q1 v1 r1⟩))
    obtain ⟨bc, hbc⟩ := (Z.at_ c hcn hce).1
    have hbt : bc = true := by
      cases bc with
      | true => rfl
      | false =>
        have z := (hbc.no rfl).1
        rw [hm.at_] at z
        cases z
    subst hbt
    refine ⟨?_, o, ox, od, rfl, J, hcn, hce⟩
    have back : wpAny (model X.prog X.w) X.A (call (.ref f) [.ref o, u]) (PySem.W.CmpBack fun z s' => ∃ z', some z = some z' ∧ EP X pins σ Q z' s') X.xe s := by
      refine wpAny_mono run (fun z s' hz => ?_) fun _ _ z => z
      obtain ⟨w', H', I', rv, hni, q'⟩ := hz
      unfold PySem.W.CmpBack
      split
      · exact absurd rfl (hni _ rv)
      · exact ⟨_, rfl, w', H', I', rv, q'⟩
    unfold okB at hB
    split at hB
    · rename_i T0 et
      have hT := of_decide_eq_true hB
      have hl := type_looks T I so ry rb et
      refine b1_own I.kIn J hl hbc N.o1 N.o2 hm.at_ hm.fn ?_ back
      cases en : nb T0 with
      | false => exact .inr (.inl (PySem.W.Looks.of_pure (by rw [← en]; exact N.fl T0 hT)))
      | true =>
        obtain ⟨tk, htk⟩ := N.tk T0 hT en
        exact .inr (.inr ⟨PySem.W.Looks.of_pure (by rw [← en]; exact N.fl T0 hT), O.sb T0 hT, .inr ⟨PySem.W.Looks.of_pure rfl, tk, htk⟩⟩)
    · rename_i c' et
      obtain ⟨h1, h2⟩ := Bool.and_eq_true_iff.mp hB
      have hc' := of_decide_eq_true h1
      have he' : t.exc c' = false := by
        cases z : t.exc c' with
        | false => rfl
        | true =>
          rw [z] at h2
          cases h2
      have hl := type_looks T I so ry rb et
      obtain ⟨b', hb'⟩ := (Z.at_ c' hc' he').1
      refine b1_own I.kIn J hl hbc N.o1 N.o2 hm.at_ hm.fn ?_ back
      cases b' with
      | false => exact .inr (.inl (fills_opC I.kIn hb' N.o1 N.o2))
      | true =>
        rcases Bool.or_eq_true_iff.mp (O.so c' hc') with z | z
        · exact .inl (beq_iff_eq.mp z)
        · exact .inr (.inr ⟨fills_opC I.kIn hb' N.o1 N.o2, beq_iff_eq.mp z, .inl (inpy_opC I.kIn hb')⟩)
    · cases hB
  · exact q.elim
theorem v_binB (N : OpN op.info.2 nb) (Z : OpT t X.K cl op.info.2) (T : CtOk t X.K cl) (O : OwK t X.K cl c) (F : MtR X.prog X.w X.K X.mg X.base cl k c (PySem.dunder op.info.2) g) (B : Bx X W) (hr : Room k X.A) : OpV X cl W (binaryOp op) (hOwnB t c g) := fun pins s σ Hv H S ad x y v u a b Q I rx ry so ra rb q => by
  unfold binaryOp
  refine wpAny_holding (wpAny_bind (wpAny_mono (b1_run N Z T O F B hr I rx ry so ra rb q).1 (fun r s' hr => ?_) fun _ _ z => z))
  obtain ⟨z, rfl, hz⟩ := hr
  exact wpAny_pure hz
theorem v_binI (N : OpN op.info.2 nb) (Z : OpT t X.K cl op.info.2) (T : CtOk t X.K cl) (O : OwK t X.K cl c) (F : MtR X.prog X.w X.K X.mg X.base cl k c (PySem.dunder op.info.2) g) (B : Bx X W) (hr : Room k X.A) : OpV X cl W (inplaceOp op) (hOwnB t c g) := fun pins s σ Hv H S ad x y v u a b Q I rx ry so ra rb q => by
  obtain ⟨run, o, ox, od, rfl, J, hcn, hce⟩ := b1_run N Z T O F B hr I rx ry so ra rb q
  obtain ⟨⟨b', hb'⟩, hI⟩ := Z.at_ c hcn hce
  obtain ⟨cd, hcd, hm⟩ := hb'.cd
  have hfi : PySem.W.Looks (model X.prog X.w) s.heap (fillsInplaceSlot (.ref (cl c)) op.info.2 (op == .Add)) false := by
    intro A Q E s' k q
    unfold fillsInplaceSlot
    refine wpAny_bind ((PySem.W.looks_clsIn I.kIn hcd).andThen (f := fun cd => pure cd.mro) .now A _ E s' k ?_)
    rw [hm, List.anyM_cons]
    refine wpAny_bind (wpAny_bind (PySem.W.looks_findIn I.kIn hI A _ E s' k ?_))
    refine wpAny_pure ?_
    simp only [Bool.false_eq_true, if_false]
    rw [List.anyM_cons]
    refine wpAny_bind ?_
    show wpAny _ A (typeLookup (.type "object") (dunderI op.info.2) >>= _) _ _ _
    rw [N.o3]
    refine wpAny_bind (wpAny_pure (wpAny_pure ?_))
    simp only [Bool.false_eq_true, if_false]
    rw [List.anyM_nil]
    exact wpAny_pure q
  unfold inplaceOp
  refine wpAny_holding (wpAny_bind (J.type.here (wpAny_bind (hfi.here ?_))))
  simp only [Bool.false_eq_true, if_false]
  refine wpAny_bind (wpAny_mono run (fun r s' hr => ?_) fun _ _ z => z)
  obtain ⟨z, rfl, hz⟩ := hr
  exact wpAny_pure hz
end
end R


namespace R
open PySem L2
def nbInt (T : String) : Bool := T == "int" || T == "bool"
def nbDict (T : String) : Bool := T == "int" || (T == "bool" || T == "dict")
theorem nbInt_cases {T : String} (h : nbInt T = true) : T = "int" ∨ T = "bool" := num_cases h
theorem opN_add : OpN "add" nbInt := by
  refine ⟨fun T hT => numOp_add.fl T hT, fun T _ hT => numOp_add.tk T hT, ?_, ?_, ?_⟩ <;> (rw [typeLookup_type, builtinLookup_eq_fast]; kernel_rfl)
theorem opN_sub : OpN "sub" nbInt := by
  refine ⟨fun T hT => numOp_sub.fl T hT, fun T _ hT => numOp_sub.tk T hT, ?_, ?_, ?_⟩ <;> (rw [typeLookup_type, builtinLookup_eq_fast]; kernel_rfl)
theorem opN_mul : OpN "mul" nbInt := by
  refine ⟨fun T hT => ?_, fun T _ hT => ⟨some (.builtin "int.__rmul__"), by rcases num_cases hT with rfl | rfl <;> (rw [typeLookup_type, builtinLookup_eq_fast]; kernel_rfl)⟩, ?_, ?_, ?_⟩
  · simp only [baseTys, List.mem_cons, List.not_mem_nil, or_false] at hT
    rcases hT with rfl | rfl | rfl | rfl | rfl | rfl | rfl <;> (unfold fillsNumberSlot; simp only [typeLookup_type, builtinLookup_eq_fast]; kernel_rfl)
  all_goals (rw [typeLookup_type, builtinLookup_eq_fast]; kernel_rfl)
theorem opN_and : OpN "and" nbInt := by
  refine ⟨fun T hT => ?_, fun T _ hT => ?_, ?_, ?_, ?_⟩
  · simp only [baseTys, List.mem_cons, List.not_mem_nil, or_false] at hT
    rcases hT with rfl | rfl | rfl | rfl | rfl | rfl | rfl <;> (unfold fillsNumberSlot; simp only [typeLookup_type, builtinLookup_eq_fast]; kernel_rfl)
  · rcases num_cases hT with rfl | rfl
    · exact ⟨some (.builtin "int.__rand__"), by rw [typeLookup_type, builtinLookup_eq_fast]; kernel_rfl⟩
    · exact ⟨some (.builtin "bool.__rand__"), by rw [typeLookup_type, builtinLookup_eq_fast]; kernel_rfl⟩
  all_goals (rw [typeLookup_type, builtinLookup_eq_fast]; kernel_rfl)
theorem opN_xor : OpN "xor" nbInt := by
  refine ⟨fun T hT => ?_, fun T _ hT => ?_, ?_, ?_, ?_⟩
  · simp only [baseTys, List.mem_cons, List.not_mem_nil, or_false] at hT
    rcases hT with rfl | rfl | rfl | rfl | rfl | rfl | rfl <;> (unfold fillsNumberSlot; simp only [typeLookup_type, builtinLookup_eq_fast]; kernel_rfl)
  · rcases num_cases hT with rfl | rfl
    · exact ⟨some (.builtin "int.__rxor__"), by rw [typeLookup_type, builtinLookup_eq_fast]; kernel_rfl⟩
    · exact ⟨some (.builtin "bool.__rxor__"), by rw [typeLookup_type, builtinLookup_eq_fast]; kernel_rfl⟩
  all_goals (rw [typeLookup_type, builtinLookup_eq_fast]; kernel_rfl)
theorem opN_or : OpN "or" nbDict := by
  refine ⟨fun T hT => ?_, fun T _ hT => ?_, ?_, ?_, ?_⟩
  · simp only [baseTys, List.mem_cons, List.not_mem_nil, or_false] at hT
    rcases hT with rfl | rfl | rfl | rfl | rfl | rfl | rfl <;> (unfold fillsNumberSlot; simp only [typeLookup_type, builtinLookup_eq_fast]; kernel_rfl)
  · have hh : T = "int" ∨ T = "bool" ∨ T = "dict" := by
      unfold nbDict at hT
      rcases (Bool.or_eq_true _ _).mp hT with h | h
      · exact .inl (beq_iff_eq.mp h)
      · rcases (Bool.or_eq_true _ _).mp h with h | h
        · exact .inr (.inl (beq_iff_eq.mp h))
        · exact .inr (.inr (beq_iff_eq.mp h))
    rcases hh with rfl | rfl | rfl
    · exact ⟨some (.builtin "int.__ror__"), by rw [typeLookup_type, builtinLookup_eq_fast]; kernel_rfl⟩
    · exact ⟨some (.builtin "bool.__ror__"), by rw [typeLookup_type, builtinLookup_eq_fast]; kernel_rfl⟩
    · exact ⟨some (.builtin "dict.__ror__"), by rw [typeLookup_type, builtinLookup_eq_fast]; kernel_rfl⟩
  all_goals (rw [typeLookup_type, builtinLookup_eq_fast]; kernel_rfl)
section
variable {X : Cx} {cl : CL} {W : WX} {k : Nat} {tb : Tb} {t : CtT} {op : Operator} {nb : String → Bool}
theorem tv_bin {h0 : A → A → Store → Out A} {m : Str} (N : OpN op.info.2 nb) (Z : OpT t X.K cl op.info.2) (T : CtOk t X.K cl) (o0 : OpV X cl W (binaryOp op) h0) (TB : TbOk X.prog X.w X.K X.mg X.base cl t k m tb) (B : Bx X W) (hr : Room k X.A) (hm : m = PySem.dunder op.info.2 := by rfl) : OpV X cl W (binaryOp op) (hTbL tb (hOwnB t) h0) :=
  opV_tbL o0 fun c g h => v_binB N Z T (TB.at_ c g h).2 (hm ▸ (TB.at_ c g h).1) B hr
theorem tv_aug {h0 : A → A → Store → Out A} {m : Str} (N : OpN op.info.2 nb) (Z : OpT t X.K cl op.info.2) (T : CtOk t X.K cl) (o0 : OpV X cl W (inplaceOp op) h0) (TB : TbOk X.prog X.w X.K X.mg X.base cl t k m tb) (B : Bx X W) (hr : Room k X.A) (hm : m = PySem.dunder op.info.2 := by rfl) : OpV X cl W (inplaceOp op) (hTbL tb (hOwnB t) h0) :=
  opV_tbL o0 fun c g h => v_binI N Z T (TB.at_ c g h).2 (hm ▸ (TB.at_ c g h).1) B hr
/-- the built-in ones: ints -/
theorem i_add : OpV X cl W (inplaceOp .Add) (hInt yes2 fun i j => .int (i + j)) := fun pins s σ Hv H S ad x y v u a b Q I rx ry so ra rb q => by
  refine ip_add pins s σ H x y v u Q I rx ry ?_
  unfold hInt at q
  split at q
  · rename_i i j
    cases ra
    cases rb
    exact ⟨i, j, rfl, rfl, q.here so _ .int⟩
  · exact q.elim
theorem i_sub : OpV X cl W (inplaceOp .Sub) (hInt yes2 fun i j => .int (i - j)) := fun pins s σ Hv H S ad x y v u a b Q I rx ry so ra rb q => by
  refine ip_sub pins s σ H x y v u Q I rx ry ?_
  unfold hInt at q
  split at q
  · rename_i i j
    cases ra
    cases rb
    exact ⟨i, j, rfl, rfl, q.here so _ .int⟩
  · exact q.elim
end
/-! ### name op= e -/
def kAug2 (i : Nat) (env : Env) (r : A) (S : Store) : OutS := .ok (.nx (env.set i (some r))) S
def kAug (i : Nat) (h : A → A → Store → Out A) (env : Env) (a b : A) (S : Store) : OutS := (h a b S).bindS env (kAug2 i env)
def sAug (i : Nat) (h : A → A → Store → Out A) (f : Ev A) : Sv := fun env S => match env[i]? with
  | some (some a) => (f env S).bindS env (kAug i h env a)
  | _ => .bad
section
variable {X : Cx} {cl : CL} {W : WX} {op : Operator} {x : Str} {e : Expr} {pos pos' : Pos} {f : Ev A} {h : A → A → Store → Out A}
theorem ss_aug (i : Nat) (hN : X.N.Nodup) (ho : OpV X cl W (inplaceOp op) h) (he : SE X cl W e f) (hi : X.N[i]? = some x := by rfl) (hx : Loc X.env.scope x := by first | exact Or.inl rfl | exact Or.inr rfl)
    (hf : X.fn x = true ∨ X.env.scope.names.lookup x = some .local := by first | exact .inl rfl | exact .inr rfl | assumption) : SS X cl W (.AugAssign (.Name x pos') op e pos) (sAug i h f) := by
  obtain ⟨te, pe, rE⟩ := he.ex
  refine ⟨cS X.K cl W (sAug i h f), ⟨fun pins s σ H D I z => ?_⟩, fun σ Hv H S ad env Dn re so q => ⟨Hv, S, ad, env, re, so, q⟩⟩
  obtain ⟨Hv, S, ad, env, re, so, q⟩ := z
  unfold sAug at q
  split at q
  · rename_i a ea
    obtain ⟨v, e1, ra⟩ := re.at_ i a ea
    obtain ⟨m, hn, hl⟩ := I.loc
    have vis : Vis X.env.scope x := by rcases hx with k | k; exact .inl k; exact .inr (.inl k)
    obtain ⟨u, r, l⟩ := hl i x v hi e1 vis
    refine wpAny_AugAssign_Name ?_
    have go : wpAny (model X.prog X.w) X.A (eval e X.env) (fun w s₂ => wpAny (model X.prog X.w) X.A (inplaceOp op u w) (fun r s₃ => wpAny (model X.prog X.w) X.A (storeName X.env x r) (fun _ => L2.SP X pins D .next) X.xe s₃) X.xe s₂) X.xe s := by
      have key := pe.run pins s σ H (fun y H1 => ∃ S1 Hv1 ad1 b, Ex Hv Hv1 ∧ Pre ad ad1 ∧ StOk X.K cl Hv1 H1 S1 ad1 ∧ RepA X.K cl Hv1 ad1 y b ∧ PstS X.K cl W Hv1 ad1 D (kAug i h env a b S1)) I
        (rE σ Hv H S ad env _ re so ((q.bind re).mono fun b S1 Hv1 ad1 H1 e1 p1 s1 q1 v1 r1 => ⟨S1, Hv1, ad1, b, e1, p1, s1, r1, q1⟩))
      refine wpAny_mono key (fun w s1 hw => ?_) fun _ _ z => z
      obtain ⟨y, H1, I1, ry, S1, Hv1, ad1, b, e1, p1, s1', rb, q1⟩ := hw
      have re1 := re.mono e1 p1
      refine wpAny_mono (ho pins s1 σ Hv1 H1 S1 ad1 v y u w a b (fun z H2 => ∃ S2 Hv2 ad2 c, Ex Hv1 Hv2 ∧ Pre ad1 ad2 ∧ StOk X.K cl Hv2 H2 S2 ad2 ∧ RepA X.K cl Hv2 ad2 z c ∧ PstS X.K cl W Hv2 ad2 D (kAug2 i env c S2)) I1 r ry s1' (ra.mono e1 p1) rb
        ((q1.bind re1).mono fun c S2 Hv2 ad2 H2 e2 p2 s2 q2 v2 r2 => ⟨S2, Hv2, ad2, c, e2, p2, s2, r2, q2⟩)) (fun z s2 hz => ?_) fun _ _ z => z
      obtain ⟨zv, H2, I2, rz, S2, Hv2, ad2, c, e2, p2, s2', rc, q2⟩ := hz
      exact store_ok I2 hN hi hx rz (fun s3 I3 => ⟨_, H2, I3, q2 _ Hv2 ad2 H2 (Ex.refl _) (Pre.refl _) s2' ((re1.mono e2 p2).set i rc)⟩) hf
    rcases l with ⟨hk, hm⟩ | ⟨hk, c, hc, hcell⟩
    · exact wpAny_loadName_local I.ok.kind hk hn hm go
    · rcases hk with hk | hk
      · exact wpAny_loadName_cell I.ok.kind hk hc hcell go
      · rcases hx with k | k
        · have : X.env.scope.names.lookup x = some .free := hk
          rw [k] at this; cases this
        · have : X.env.scope.names.lookup x = some .free := hk
          rw [k] at this; cases this
  · exact q.elim
end
end R


namespace R
open PySem L2
/-! ### o.f = e, o a place of the store -/
def putN (f : Str) : List Str → List Str
  | [] => [f]
  | g :: r => if g = f then g :: r else g :: putN f r
def putD (f : Str) (d : D) : List Str → List D → List D
  | [], _ => [d]
  | g :: r, vs => if g = f then d :: vs.drop 1 else vs.take 1 ++ putD f d r (vs.drop 1)
theorem putF_names {f : Str} {v : V} : ∀ {fs : List (Str × V)}, (putF f v fs).map (·.1) = putN f (fs.map (·.1))
  | [] => rfl
  | (g, x) :: r => by
    unfold putF
    show _ = (if g = f then g :: r.map (·.1) else g :: putN f (r.map (·.1)))
    split
    · rfl
    · rw [List.map_cons, putF_names]
theorem putF_vals {K : PySem.W.Frag} {cl : CL} {H : Hp} {f : Str} {v : V} {d : D} (rv : Rep K cl H v d) : ∀ {fs : List (Str × V)} {ds : List D}, Reps K cl H (fs.map (·.2)) ds → Reps K cl H ((putF f v fs).map (·.2)) (putD f d (fs.map (·.1)) ds)
  | [], _, _ => .cons rv .nil
  | (g, x) :: r, _, .cons a b => by
    unfold putF
    show Reps K cl H _ (if g = f then _ else _)
    split
    · exact .cons rv b
    · exact .cons a (putF_vals rv b)
def kFld2 (t : CtT) (f : Str) (env : Env) (a o : A) (S : Store) : OutS := match a, atLoc S o with
  | .val d, some (n, .ins c ns vs) => if (c < t.n ∧ t.exc c = false) ∧ f ∈ t.fld c ∧ ns.length < 1000 then .ok (.nx env) (S.set n (some (.ins c (putN f ns) (putD f d ns vs)))) else .bad
  | _, _ => .bad
def kFld (t : CtT) (f : Str) (fo : Ev A) (env : Env) (a : A) (S : Store) : OutS := (fo env S).bindS env (kFld2 t f env a)
def sFldE (t : CtT) (f : Str) (fo fv : Ev A) : Sv := fun env S => (fv env S).bindS env (kFld t f fo env)
section
variable {X : Cx} {cl : CL} {W : WX} {t : CtT} {f : Str} {o e : Expr} {pos pos' : Pos} {fo fv : Ev A}
theorem ss_fld (T : CtOk t X.K cl) (ho : SE X cl W o fo) (hv : SE X cl W e fv) (hs : swapsWith e (some (.Attribute o f pos')) pos.line X.env = pure false := by rfl) : SS X cl W (.Assign [.Attribute o f pos'] e pos) (sFldE t f fo fv) := by
  obtain ⟨to, po, ro⟩ := ho.ex
  obtain ⟨tv, pv, rv⟩ := hv.ex
  refine ⟨_, ps_fld po pv hs, fun σ Hv H S ad env Dn re so q => ?_⟩
  refine rv σ Hv H S ad env _ re so ((q.bind re).mono fun a S1 Hv1 ad1 H1 e1 p1 s1 q1 v1 r1 => ?_)
  refine ro σ Hv1 H1 S1 ad1 env _ (re.mono e1 p1) s1 ((q1.bind (re.mono e1 p1)).mono fun b S2 Hv2 ad2 H2 e2 p2 s2 q2 v2 r2 => ?_)
  unfold kFld2 at q2
  split at q2
  · rename_i d n c ns vs en
    split at q2
    · rename_i hc
      obtain ⟨⟨hc1, hc2⟩, hc3, hc4⟩ := hc
      cases b with
      | val d' => cases en
      | fv k => cases en
      | loc m =>
        obtain ⟨x, rfl, hx⟩ := r2
        unfold atLoc at en
        dsimp only at en
        split at en
        · rename_i c0 ec
          cases en
          obtain ⟨x', h1, h2, dx, fs, h3, h4, h5⟩ := s2.at_ n _ ec
          rw [hx] at h1
          cases h1
          refine ⟨x, cl c, dx, fs, rfl, h3, (T.obk c hc1 hc2).cl, T.noat c hc1 f hc3, ?_, ?_⟩
          · rw [← h4, List.length_map] at hc4
            exact hc4
          · have r1' : Rep X.K cl Hv2 v1 d := Rep.mono e2 r1
            have w := s2.write (o := .ins (cl c) dx (putF f v1 fs)) (c' := .ins c (putN f ns) (putD f d ns vs)) ec hx ⟨dx, putF f v1 fs, upd_same, by rw [putF_names, h4], by rw [← h4]; exact putF_vals r1' h5⟩
            exact q2 σ Hv2 ad2 _ (Ex.refl _) (Pre.refl _) w ((re.mono e1 p1).mono e2 p2)
        · cases en
    · exact q2.elim
  · exact q2.elim
end
/-! ### o.m() -/
section
variable {X : Cx} {cl : CL} {W : WX} {k c : Nat} {m : Str} {g : List A → Store → Out A} {o : Expr} {pos apos : Pos} {fo : Ev A}
theorem se_meth0 {pl : Sem Bool} (F : MtR X.prog X.w X.K X.mg X.base cl k c m g) (B : Bx X W) (hr : Room k X.A) (ho : SE X cl W o fo)
    (ht : eval (.Call (.Attribute o m apos) [] [] pos) X.env = (do
      let ov ← eval o X.env
      standAt apos.atName
      let (f, first) ← holding [ov] (getMethod ov m pl)
      callWith pos f first (backTo pos (starEach [] X.env)) (backToKw pos (keywordEach [] X.env))) := by rfl) :
    SE X cl W (.Call (.Attribute o m apos) [] [] pos) (eMeth c m g fo eNil) := by
  obtain ⟨f, hc, hm, F⟩ := F.ex
  obtain ⟨to, po, ro⟩ := ho.ex
  refine ⟨fun σ H Q => to σ H fun x H1 => ∃ a dx fs, x = .ref a ∧ H1 a = some (.ins (cl c) dx fs) ∧ fs.lookup m = none ∧ SpV X.K cl g [x] H1 Q (WE W σ), ⟨fun pins s σ H Q I h => ?_⟩, fun σ Hv H S ad env Q re so q => ?_⟩
  · refine PySem.W.methodCall_KW (pl := pl) (thn (po.run pins s σ H _ I h) fun u s1 hu => ?_) ht
    obtain ⟨x, H1, I1, rx, a, dx, fs, rfl, ea, l, q⟩ := hu
    obtain rfl : u = Value.ref a := rx
    refine getmeth_ok I1 ea hc hm l ?_
    exact PySem.W.callWith_K0 (first := [.ref a]) I1.kIn hm.kp (run_fnV (us := [.ref a]) (vs := [.ref a]) F B hr I1 (.cons rfl .nil) q)
  · refine ro σ Hv H S ad env _ re so (Pst.mono (Pst.bind q) fun z S1 Hv1 ad1 H1 e1 p1 s1 q1 v1 r1 => ?_)
    split at q1
    · rename_i c' ns eo
      split at q1
      · rename_i hcn
        obtain ⟨rfl, hn⟩ := hcn
        obtain ⟨a, dx, fs, rfl, h1, rfl⟩ := obj_at s1 r1 eo
        exact ⟨a, dx, fs, rfl, h1, noField hn, spV_of s1 (.cons r1 .nil) q1⟩
      · exact q1.elim
    · exact q1.elim
end
/-! ### *e among arguments -/
def starA (S : Store) : A → Option (List D)
  | .val (.tup ds) => some ds
  | .val (.lst ds) => some ds
  | .loc n => (match S[n]? with
    | some (some (.lst ds)) => some ds
    | _ => none)
  | _ => none
def kStar2 (ds : List D) (as : List A) (S : Store) : Out (List A) := .ok (ds.map A.val ++ as) S
def kStar (g : Ev (List A)) (env : Env) (a : A) (S : Store) : Out (List A) := match starA S a with
  | some ds => (g env S).bind (kStar2 ds)
  | none => .bad
def eStar (f : Ev A) (g : Ev (List A)) : Ev (List A) := fun env S => (f env S).bind (kStar g env)
theorem starA_at {K : PySem.W.Frag} {cl : CL} {Hv H : Hp} {S : Store} {ad : List Addr} {v : V} {a : A} {ds : List D} (so : StOk K cl Hv H S ad) (r : RepA K cl Hv ad v a) (e : starA S a = some ds) : ∃ p xs, v = .ref p ∧ (SqT K H p xs ∨ SqL K H p xs) ∧ Reps K cl Hv xs ds := by
  cases a with
  | fv k => cases e
  | val d =>
    cases d with
    | tup ds' =>
      cases e
      cases r with
      | tup hq rs => exact ⟨_, _, rfl, .inl (ex_t so.ex hq), rs⟩
    | lst ds' =>
      cases e
      cases r with
      | lst hq rs => exact ⟨_, _, rfl, .inr (ex_l so.ex (.inl (.inl hq))), rs⟩
    | _ => cases e
  | loc n =>
    obtain ⟨p, rfl, hp⟩ := r
    unfold starA at e
    dsimp only at e
    split at e
    · rename_i ds' es
      cases e
      obtain ⟨p', h1, _, xs, h3, h4⟩ := so.at_ n _ es
      rw [hp] at h1
      cases h1
      exact ⟨p, xs, rfl, .inr (.inl (.inl h3)), h4⟩
    · cases e
section
variable {X : Cx} {cl : CL} {W : WX} {k c : Nat} {gI : List A → Store → Out A} {x : Str} {e : Expr} {es : List Expr} {p sp_ pos : Pos} {f : Ev A} {g fa : Ev (List A)}
theorem sa_star (ha : SE X cl W e f) (hr : SA X cl W es g) (hs : starEach (.Starred e p :: es) X.env = (true, eval e X.env) :: starEach es X.env := by rfl) : SA X cl W (.Starred e p :: es) (eStar f g) := by
  obtain ⟨_, pa, ra⟩ := ha.ex
  obtain ⟨_, pb, rb⟩ := hr.ex
  refine ⟨_, StX.pa_star pa pb hs, fun σ Hv H S ad env Q re so q => ?_⟩
  refine ra σ Hv H S ad env _ re so (q.bind.mono fun a S1 Hv1 ad1 H1 e1 p1 s1 q1 v1 r1 => ?_)
  unfold kStar at q1
  split at q1
  · rename_i ds ed
    obtain ⟨p, xs, rfl, hsq, rs⟩ := starA_at s1 r1 ed
    refine ⟨p, xs, rfl, hsq, rb σ Hv1 H1 S1 ad1 env _ (re.mono e1 p1) s1 (q1.bind.mono fun as S2 Hv2 ad2 H2 e2 p2 s2 q2 vs r2 => q2.here s2 _ (RepAs.append (RepAs.vals (rs.mono e2)) r2))⟩
  · exact q1.elim
/-- C(*e) -/
theorem se_makeS (F : ObR X.prog X.w X.K X.mg X.base cl k c gI) (B : Bx X W) (hr : Room (k + 1) X.A) (hm : X.mg x = some (.ref (cl c))) (ha : SE X cl W e f) (hg : Gl X x := by rfl) (hdb : (x == ("__debug__" : Str)) = false := by decide)
    (hst : starEach [.Starred e sp_] X.env = [(true, eval e X.env)] := by rfl) : SE X cl W (.Call (.Name x p) [.Starred e sp_] [] pos) (eApp (kMake c gI) (eStar f eNil)) := by
  obtain ⟨fI, M, F⟩ := F.ex
  obtain ⟨ta, pa, ra⟩ := ha.ex
  refine ⟨fun σ H Q => ta σ H fun v H1 => ∃ q xs, v = .ref q ∧ (SqT X.K H1 q xs ∨ SqL X.K H1 q xs) ∧ ∀ y dx, H1 y = none → H1 dx = none → dx ≠ y → SpV X.K cl gI (.ref y :: xs) (upd (upd H1 dx (.own y)) y (.ins (cl c) dx [])) (fun v H2 => v = .non ∧ Q (.ref y) H2) (WE W σ), ⟨fun pins s σ H Q I h => ?_⟩, fun σ Hv H S ad env Q re so q => ?_⟩
  · refine wpAny_Call_Name_kw (ld_glob I hg hm ?_ hdb)
    refine PySem.W.callWith_S (h₀ := X.base) I.ok.mod.kin M.kp (thn (pa.run pins s σ H _ I h) fun v s1 hv => ?_) hst
    obtain ⟨y, H1, I1, ry, a, xs, rfl, hxs, q⟩ := hv
    obtain rfl : v = Value.ref a := ry
    exact StX.star_any I1 hxs fun us s2 I2 rv => ⟨I2.kIn, run_makeV M F B hr I2 rv q⟩
  · have q0 : Pst X.K cl W σ Hv ad (RA X.K cl Q) ((f env S).bind fun a S1 => (kStar eNil env a S1).bind (kMake c gI)) := by
      have q' : Pst X.K cl W σ Hv ad (RA X.K cl Q) (((f env S).bind (kStar eNil env)).bind (kMake c gI)) := q
      cases ef : f env S with
      | ok a S1 => rw [ef] at q'; exact q'
      | exc a b d S1 => rw [ef] at q'; exact q'
      | bad => rw [ef] at q'; exact q'
    refine ra σ Hv H S ad env _ re so (Pst.mono (Pst.bind q0) fun a S1 Hv1 ad1 H1 e1 p1 s1 q1 v1 r1 => ?_)
    unfold kStar at q1
    cases ed : starA S1 a with
    | none =>
      rw [ed] at q1
      exact q1.elim
    | some ds =>
      rw [ed] at q1
      obtain ⟨p, xs, rfl, hsq, rs⟩ := starA_at s1 r1 ed
      have q2 : Pst X.K cl W σ Hv1 ad1 (RA X.K cl Q) (kMake c gI (ds.map A.val ++ []) S1) := q1
      rw [List.append_nil] at q2
      exact ⟨p, xs, rfl, hsq, fun y dx hy hdx hne => made_end s1 (RepAs.vals rs) hy hdx hne q2⟩
/-- C(e, .., *e') -/
theorem se_makeS2 {e : Expr} {es : List Expr} (F : ObR X.prog X.w X.K X.mg X.base cl k c gI) (B : Bx X W) (hr : Room (k + 1) X.A) (hm : X.mg x = some (.ref (cl c))) (ha : SA X cl W (e :: es) fa) (hg : Gl X x := by rfl) (hdb : (x == ("__debug__" : Str)) = false := by decide)
    (he : starEach (e :: es) X.env = (false, eval e X.env) :: starEach es X.env := by rfl) (hst : (backTo pos (starEach es X.env)).any (·.1) = true := by rfl) : SE X cl W (.Call (.Name x p) (e :: es) [] pos) (eApp (kMake c gI) fa) := by
  obtain ⟨fI, M, F⟩ := F.ex
  obtain ⟨ta, pa, ra⟩ := ha.ex
  refine ⟨fun σ H Q => ta σ H fun vs H1 => ∀ y dx, H1 y = none → H1 dx = none → dx ≠ y → SpV X.K cl gI (.ref y :: vs) (upd (upd H1 dx (.own y)) y (.ins (cl c) dx [])) (fun v H2 => v = .non ∧ Q (.ref y) H2) (WE W σ), ⟨fun pins s σ H Q I h => ?_⟩, fun σ Hv H S ad env Q re so q => ?_⟩
  · refine wpAny_Call_Name_kw (ld_glob I hg hm ?_ hdb)
    refine PySem.W.callWith_S2 (h₀ := X.base) I.ok.mod.kin M.kp (thn (pa.run pos pins s σ H _ I h) fun us s1 ⟨vs, H1, I1, r, q⟩ => ⟨I1.kIn, ?_⟩) he hst
    exact run_makeV M F B hr I1 r q
  · exact ra σ Hv H S ad env _ re so (q.bind.mono fun as S1 Hv1 ad1 H1 e1 p1 s1 q1 vs r1 y dx hy hdx hne => made_end s1 r1 hy hdx hne q1)
end
end R


namespace R
open PySem L2
/-! ### tests by truth -/
def tTru (h : A → Store → Out Bool) (f : Ev A) : Ev Bool := fun env S => (f env S).bind h
def hTruT (tbB tbL : Tb) (a : A) (S : Store) : Out Bool := match objA S a with
  | some (c, _) => (match tbB.lookup c with
    | some g => hOwnTrB c g a S
    | none => (match tbL.lookup c with
      | some g => hOwnTrL c g a S
      | none => .bad))
  | none => kTrB a S
section
variable {X : Cx} {cl : CL} {W : WX} {k : Nat} {tbB tbL : Tb} {t : CtT} {e : Expr} {f : Ev A} {h : A → Store → Out Bool} {pos : Pos}
theorem tv_tru (TB : TbOk X.prog X.w X.K X.mg X.base cl t k "__bool__" tbB) (TL : TbOk X.prog X.w X.K X.mg X.base cl t k "__len__" tbL) (hno : ∀ c g, tbL.lookup c = some g → tbB.lookup c = none → PySem.W.findIn X.K (.ref (cl c)) "__bool__" = some none) (B : Bx X W) (hr : Room (k + 1) X.A) : TrV X cl W (hTruT tbB tbL) := fun pins s σ Hv H S ad x v a Q I rx so ra q => by
  unfold hTruT at q
  split at q
  · split at q
    · rename_i g e
      exact v_trB (TB.at_ _ g e).1 B (hr.mono (Nat.le_succ _)) pins s σ Hv H S ad x v a Q I rx so ra q
    · rename_i eB
      split at q
      · rename_i g e
        exact v_trL (hno _ g e eB) (TL.at_ _ g e).1 B hr pins s σ Hv H S ad x v a Q I rx so ra q
      · exact q.elim
  · unfold kTrB at q
    split at q
    · cases ra
      obtain rfl := rx
      exact wpAny_truthy_bool ⟨H, I, q.hereB so⟩
    · exact q.elim
theorem st_tru (ht : TrV X cl W h) (he : SE X cl W e f) (hw : ∀ whole, isTrue e X.env whole = (do let v ← whole; standAt e.pos; holding [v] (truthy v)) := by intro _; rfl) : ST X cl W e (tTru h f) := by
  obtain ⟨te, pe, rE⟩ := he.ex
  refine ⟨cT X.K cl W (tTru h f), ⟨fun pins s σ H Q I z => ?_⟩, fun σ Hv H S ad env Q re so q => ⟨Hv, S, ad, env, re, so, q⟩⟩
  obtain ⟨Hv, S, ad, env, re, so, q⟩ := z
  have key := pe.run pins s σ H (fun y H1 => ∃ S1 Hv1 ad1 b, StOk X.K cl Hv1 H1 S1 ad1 ∧ RepA X.K cl Hv1 ad1 y b ∧ Pst X.K cl W σ Hv1 ad1 (RB Q) (h b S1)) I
    (rE σ Hv H S ad env _ re so (Pst.mono (Pst.bind q) fun b S1 Hv1 ad1 H1 e1 p1 s1 q1 v1 r1 => ⟨S1, Hv1, ad1, b, s1, r1, q1⟩))
  refine PyProof.Rows.isTrue_plain (wpAny_mono key (fun v s1 hv => ?_) fun _ _ z => z) (hw _)
  obtain ⟨y, H1, I1, ry, S1, Hv1, ad1, b, s1', rb, q1⟩ := hv
  exact ht pins s1 σ Hv1 H1 S1 ad1 y v b Q I1 ry s1' rb q1
/-- not e, as a value -/
def kNotV (b : Bool) (S : Store) : Out A := .ok (.val (.bl (!b))) S
def hNotV (h : A → Store → Out Bool) (a : A) (S : Store) : Out A := (h a S).bind kNotV
theorem tv_not (ht : TrV X cl W h) : UnV X cl W (unaryOp .Not) (hNotV h) := fun pins s σ Hv H S ad x v a Q I rx so ra q => by
  have q1 : Pst X.K cl W σ Hv ad (RB fun b H' => Q (.bl (!b)) H') (h a S) := (Pst.bind q).mono fun b S1 Hv1 ad1 H1 e1 p1 s1 q1 => q1.here s1 _ .bl
  unfold unaryOp
  refine wpAny_holding ?_
  show wpAny _ _ (truthy v >>= _) _ _ _
  refine wpAny_bind (wpAny_mono (ht pins s σ Hv H S ad x v a _ I rx so ra q1) (fun b s' hb => ?_) fun _ _ z => z)
  obtain ⟨H', I', q'⟩ := hb
  exact wpAny_pure ⟨.bl (!b), H', I', rfl, q'⟩
theorem se_notV (ht : TrV X cl W h) (ha : SE X cl W e f) : SE X cl W (.UnaryOp .Not e pos) (eUn (hNotV h) f) := by
  obtain ⟨ta, pa, ra⟩ := ha.ex
  refine ⟨cE X.K cl W (eUn (hNotV h) f), ⟨fun pins s σ H Q I z => ?_⟩, fun σ Hv H S ad env Q re so q => ⟨Hv, S, ad, env, re, so, q⟩⟩
  obtain ⟨Hv, S, ad, env, rn, so, q⟩ := z
  have key := pa.run pins s σ H (fun x H1 => ∃ S1 Hv1 ad1 a, StOk X.K cl Hv1 H1 S1 ad1 ∧ RepA X.K cl Hv1 ad1 x a ∧ Pst X.K cl W σ Hv1 ad1 (RA X.K cl Q) (hNotV h a S1)) I
    (ra σ Hv H S ad env _ rn so (Pst.mono (Pst.bind q) fun a S1 Hv1 ad1 H1 e1 p1 s1 q1 v1 r1 => ⟨S1, Hv1, ad1, a, s1, r1, q1⟩))
  refine wpAny_UnaryOp (wpAny_mono key (fun v s1 hv => ?_) fun _ _ z => z)
  obtain ⟨x, H1, I1, rx, S1, Hv1, ad1, a, s1', r1, q1⟩ := hv
  exact tv_not ht pins s1 σ Hv1 H1 S1 ad1 x v a Q I1 rx s1' r1 q1
end
/-! ### calls of built-ins, their arguments own things too -/
section
variable {X : Cx} {cl : CL} {W : WX} {e : Expr} {es : List Expr} {x : Str} {id T : String} {p pos : Pos} {h : List A → Store → Out A} {f : Ev (List A)}
theorem call_run {g : Value} {pins : List (Addr × Obj)} {s : Shared} {σ : St} {H : Hp} {Q : VK} (hc : CallV X cl W g h) (ha : SA X cl W (e :: es) f) (I : Inv X pins σ H s) (z : cE X.K cl W (eApp h f) σ H Q) :
    wpAny (model X.prog X.w) X.A (spliced (backTo pos (starEach (e :: es) X.env))) (fun us s1 => wpAny (model X.prog X.w) X.A (call g us) (EP X pins σ Q) X.xe s1) X.xe s := by
  obtain ⟨Hv, S, ad, env, rn, so, q⟩ := z
  obtain ⟨ta, pa, ra⟩ := ha.ex
  refine wpAny_mono (pa.run pos pins s σ H (fun vs H1 => ∃ S1 Hv1 ad1 as, StOk X.K cl Hv1 H1 S1 ad1 ∧ RepAs X.K cl Hv1 ad1 vs as ∧ Pst X.K cl W σ Hv1 ad1 (RA X.K cl Q) (h as S1)) I
    (ra σ Hv H S ad env _ rn so (Pst.mono (Pst.bind q) fun as S1 Hv1 ad1 H1 e1 p1 s1 q1 vs r1 => ⟨S1, Hv1, ad1, as, s1, r1, q1⟩))) (fun us s1 hu => ?_) fun _ _ z => z
  obtain ⟨vs, H1, I1, r, S1, Hv1, ad1, as, s1', rs, q1⟩ := hu
  exact hc pins s1 σ Hv1 H1 S1 ad1 vs us as Q I1 r s1' rs q1
theorem se_callBV (hc : CallV X cl W (.builtin id) h) (hm : X.mg x = none) (ha : SA X cl W (e :: es) f) (hv : bootBuiltins x = some (.builtin id) := by decide +kernel) (hg : Gl X x := by rfl) (hn : x ≠ "__name__" := by decide) (hdb : (x == ("__debug__" : Str)) = false := by decide)
    (he : starEach (e :: es) X.env = (false, eval e X.env) :: starEach es X.env := by rfl) (hpl : (backTo pos (starEach es X.env)).any (·.1) = false := by rfl) : SE X cl W (.Call (.Name x p) (e :: es) [] pos) (eApp h f) :=
  ⟨cE X.K cl W (eApp h f), ⟨fun pins s σ H Q I z => wpAny_Call_Name_kw (ld_blt I hg hm hv (PyProof.Rows.callWith_builtin1 (call_run hc ha I z) he hpl) hn hdb)⟩, fun σ Hv H S ad env Q re so q => ⟨Hv, S, ad, env, re, so, q⟩⟩
theorem se_callTV (hc : CallV X cl W (.type T) h) (hm : X.mg x = none) (ha : SA X cl W (e :: es) f) (hv : bootBuiltins x = some (.type T) := by decide +kernel) (hg : Gl X x := by rfl) (hn : x ≠ "__name__" := by decide) (hdb : (x == ("__debug__" : Str)) = false := by decide)
    (he : starEach (e :: es) X.env = (false, eval e X.env) :: starEach es X.env := by rfl) (hpl : (backTo pos (starEach es X.env)).any (·.1) = false := by rfl) : SE X cl W (.Call (.Name x p) (e :: es) [] pos) (eApp h f) :=
  ⟨cE X.K cl W (eApp h f), ⟨fun pins s σ H Q I z => wpAny_Call_Name_kw (ld_blt I hg hm hv (PyProof.Rows.callWith_type1 (call_run hc ha I z) he hpl) hn hdb)⟩, fun σ Hv H S ad env Q re so q => ⟨Hv, S, ad, env, re, so, q⟩⟩
end
end R


namespace R
open PySem L2
/-! ### written tuples of texts -/
def strV? : Value → Option Str
  | .str z _ => some z
  | _ => none
def strsV? : List Value → Option (List Str)
  | [] => some []
  | v :: r => match strV? v, strsV? r with
    | some z, some zs => some (z :: zs)
    | _, _ => none
def tupStrs? (K : PySem.W.Frag) (p : Addr) : Option (List Str) := match K.lookup p with
  | some ⟨.type "tuple", _, .seq its _, _⟩ => if its.size ≤ 1000 then strsV? its.toList else none
  | _ => none
theorem strsV_ok : ∀ {vs : List Value} {xs : List Str}, strsV? vs = some xs → Vals (xs.map V.str) vs
  | [], xs, h => by
    cases h
    exact .nil
  | v :: r, xs, h => by
    unfold strsV? at h
    split at h
    · rename_i z zs e1 e2
      cases h
      refine .cons ?_ (strsV_ok e2)
      cases v <;> first | (cases e1; exact ⟨_, rfl⟩) | cases e1
    · cases h
theorem tupStrs_ok {K : PySem.W.Frag} {p : Addr} {xs : List Str} (h : tupStrs? K p = some xs) (H : Hp) : SqT K H p (xs.map V.str) := by
  unfold tupStrs? at h
  split at h
  · rename_i d its n sl e
    split at h
    · rename_i hs
      exact .inr ⟨_, its, n, e, rfl, rfl, Nat.le_trans hs (by decide), strsV_ok h⟩
    · cases h
  · cases h
def crB (K : PySem.W.Frag) (C : Addr) : Bool := PySem.W.readsIn K C (.type "type") && decide (PySem.W.specialIn K (.ref C) "__getattribute__" = some (some (.builtin "type.__getattribute__")))
theorem crB_ok {K : PySem.W.Frag} {C : Addr} (h : crB K C = true) : ClX.CRead K C (.type "type") := ⟨(Bool.and_eq_true_iff.mp h).1, of_decide_eq_true (Bool.and_eq_true_iff.mp h).2⟩
/-- C.f is a tuple of these texts -/
def csB (K : PySem.W.Frag) (C : Addr) (f : Str) (xs : List Str) : Bool := crB K C && (match PySem.W.findCls K (.ref C) (.type "type") f with
  | some (.val (.ref p)) => decide (tupStrs? K p = some xs)
  | _ => false)
/-- a module's tuple of texts -/
def gsB (K : PySem.W.Frag) (x : Str) (xs : List Str) : Bool := decide (tupStrs? K (He.ga K x) = some xs)
section
variable {X : Cx} {cl : CL} {W : WX} {c : Nat} {x f : Str} {xs : List Str} {p0 pos : Pos}
theorem rep_strs {K : PySem.W.Frag} {H : Hp} {p : Addr} (h : SqT K H p (xs.map V.str)) : Rep K cl H (.ref p) (.tup (xs.map D.str)) := .tup h (reps_strs xs)
theorem se_cstrs (h : csB X.K (cl c) f xs = true) (hm : X.mg x = some (.ref (cl c))) (hg : Gl X x := by rfl) (hd : (x == ("__debug__" : Str)) = false := by decide) (hb : attributeBase (.Name x p0) f X.env (eval (.Name x p0) X.env) = eval (.Name x p0) X.env := by rfl) :
    SE X cl W (.Attribute (.Name x p0) f pos) (eC (.tup (xs.map D.str))) := by
  obtain ⟨h1, h2⟩ := Bool.and_eq_true_iff.mp h
  split at h2
  · rename_i p e
    have hs := of_decide_eq_true h2
    refine ⟨_, ClX.pe_cval (pe_glob (v := .ref (cl c)) hg hm rfl hd) hb, fun σ Hv H S ad env Q re so q => ?_⟩
    exact ⟨cl c, .type "type", .ref p, .ref p, rfl, crB_ok h1, ⟨e, rfl⟩, q.here so _ (rep_strs (tupStrs_ok hs _))⟩
  · cases h2
theorem se_gstrs (h : gsB X.K x xs = true) (hm : X.mg x = some (.ref (He.ga X.K x))) (hg : Gl X x := by rfl) (hd : (x == ("__debug__" : Str)) = false := by decide) : SE X cl W (.Name x pos) (eC (.tup (xs.map D.str))) :=
  ⟨_, pe_glob (v := .ref (He.ga X.K x)) hg hm rfl hd, fun σ Hv H S ad env Q re so q => q.here so _ (rep_strs (tupStrs_ok (of_decide_eq_true h) _))⟩
end
/-! ### promises by keywords -/
structure FnF (P : Program) (w : World) (K : PySem.W.Frag) (mg : Str → Option Value) (base : Heap) (cl : CL) (k : Nat) (x qual : Str) (params : Arguments) (body : List Stmt) (scope : Scope) (f : Addr) (ps : List Str) (g : List A → Store → Out A) : Prop where
  ex : ∃ fd, FunD K x qual params body scope [] [] f fd ∧ FnG P w K mg base k f fd ps (SpF K cl ps.length g)
structure FnKP (P : Program) (w : World) (K : PySem.W.Frag) (mg : Str → Option Value) (base : Heap) (k : Nat) (f : Addr) (n : Nat) (nms : List Str) (sp : Sp) : Prop where
  run : ∀ (A : Around) (outer : List PySem.Env) (s : Shared) (H : Hp) (us ws : List Value) (vs zs : List V) (Q : VK) (E : XK), A.guards = some [] → Room k A → Env0 P w K mg base A outer s H → us.length = n → ws.length = nms.length → Vals vs us → Vals zs ws → sp (vs ++ zs) H Q E →
    codeAny (model P w) A (.call (.ref f) ⟨us, nms.zip ws⟩) (CR (L2.CX P w) outer P w H s Q E) s
/-- n by position, the others by these names -/
def kwG (n : Nat) (pm : List Nat) (N : Nat) (g : List A → Store → Out A) (as : List A) (S : Store) : Out A := if (as.take n ++ permL pm (as.drop n)).length = N then g (as.take n ++ permL pm (as.drop n)) S else .bad
section
variable {P : Program} {w : World} {K : PySem.W.Frag} {mg : Str → Option Value} {base : Heap} {cl : CL} {k : Nat} {x qual : Str} {params : Arguments} {body : List Stmt} {scope : Scope} {f : Addr} {N ps : List Str} {g : List A → Store → Out A} {fb : Sv}
theorem fnF_mk (F : ∃ fd, FunD K x qual params body scope [] [] f fd) (S : FnScope N ps scope)
    (hb : ∀ (cdv : Value) (A : Around) (outer : List PySem.Env) (s : Shared) (H : Hp) (E : XK), Room k (A.deeper (PyProof.Rows.envOfC qual scope s.heap.objs.size f cdv)) → Bx (cxOf (L2.CX P w) P w K mg base N qual scope f cdv A outer s H E) (fun c d _ H' => E c d H') →
      SSs (cxOf (L2.CX P w) P w K mg base N qual scope f cdv A outer s H E) cl (fun c d _ H' => E c d H') body fb) : FnF P w K mg base cl (k + 1) x qual params body scope f ps (defF N.length fb) :=
  let ⟨fd, F⟩ := F
  ⟨fd, F, fn_def F S hb⟩
theorem FnF.r (h : FnF P w K mg base cl k x qual params body scope f ps g) (hbn : ∀ (kV doc pm : Value) (an : Option Addr) (cdv ct : Value) (us : List Value), us.length = ps.length → bindArgs (PySem.W.fnOf x qual params body scope .none kV doc pm an cdv ct) ⟨us, []⟩ = pure (ps.zip us)) : FnR P w K mg base cl k f ps g :=
  let ⟨fd, F, G⟩ := h.ex
  ⟨fd, F.bindsN hbn, F.kp, G⟩
theorem FnF.kp (h : FnF P w K mg base cl k x qual params body scope f ps g) : PySem.W.keepIn K (.ref f) = true := let ⟨_, F, _⟩ := h.ex; F.kp
theorem FnF.kw {n : Nat} {nms : List Str} {pm : List Nat} (h : FnF P w K mg base cl k x qual params body scope f ps g)
    (hb : ∀ (kV doc pmv : Value) (an : Option Addr) (cdv ct : Value) (us ws : List Value), us.length = n → ws.length = nms.length → bindArgs (PySem.W.fnOf x qual params body scope .none kV doc pmv an cdv ct) ⟨us, nms.zip ws⟩ = pure (ps.zip (us ++ permL pm ws))) :
    FnKP P w K mg base k f n nms (SpV K cl (kwG n pm ps.length g)) := by
  obtain ⟨fd, F, G⟩ := h.ex
  obtain ⟨oc, od, dV, kV, doc, pmv, an, cdv, ct, osl, rfl, lk, hcd, hD, _⟩ := F.ex
  obtain ⟨_, rfl⟩ : _ ∧ dV = .none := hD.elim id fun z => absurd rfl z.1
  refine ⟨fun A outer s H us ws vs zs Q E gd hr e0 lu lw r1 r2 sp => ?_⟩
  obtain ⟨Hv, S, ad, as, rs, so, q⟩ := sp
  have ebind := hb kV doc pmv an cdv ct us ws lu lw
  have lv : vs.length = n := by rw [r1.length, lu]
  have c1 := rs.cut n
  have e1 : (vs ++ zs).take n = vs := by rw [← lv]; simp
  have e2 : (vs ++ zs).drop n = zs := by rw [← lv]; simp
  rw [e1, e2] at c1
  obtain ⟨c1, c2⟩ := c1
  unfold kwG at q
  split at q
  · rename_i hn
    have rp : RepAs K cl Hv ad (vs ++ permL pm zs) (as.take n ++ permL pm (as.drop n)) := c1.append (c2.perm pm)
    have rv : Vals (vs ++ permL pm zs) (us ++ permL pm ws) := r1.append (paired_perm r2 pm)
    exact G.run A outer s H ⟨us, nms.zip ws⟩ (us ++ permL pm ws) (vs ++ permL pm zs) Q E gd hr e0 (.of_eq ebind) rv ⟨by rw [rp.length]; exact hn, Hv, S, ad, _, rp, so, q⟩
  · exact q.elim
end
/-! ### C.m(e, ..), a classmethod -/
structure CmR (P : Program) (w : World) (K : PySem.W.Frag) (mg : Str → Option Value) (base : Heap) (cl : CL) (k c : Nat) (m : Str) (g : List A → Store → Out A) : Prop where
  ex : ∃ p f, ClX.CRead K (cl c) (.type "type") ∧ ClX.CMet K (cl c) (.type "type") m p f ∧ FnP P w K mg base k f (SpV K cl g)
structure CmKR (P : Program) (w : World) (K : PySem.W.Frag) (mg : Str → Option Value) (base : Heap) (cl : CL) (k c : Nat) (m : Str) (nms : List Str) (g : List A → Store → Out A) : Prop where
  ex : ∃ p f, ClX.CRead K (cl c) (.type "type") ∧ ClX.CMet K (cl c) (.type "type") m p f ∧ FnKP P w K mg base k f 1 nms (SpV K cl g)
def cmB (K : PySem.W.Frag) (C : Addr) (m : Str) : Bool := crB K C && (He5.wrapB K C "classmethod" "classmethod.__get__" m && PySem.W.fnIn K (He5.wf K C "classmethod" m))
theorem cmB_ok {K : PySem.W.Frag} {C : Addr} {m : Str} (h : cmB K C m = true) : ClX.CRead K C (.type "type") ∧ ClX.CMet K C (.type "type") m (He.ma K C m) (He5.wf K C "classmethod" m) := by
  obtain ⟨h1, h⟩ := Bool.and_eq_true_iff.mp h
  obtain ⟨h2, h3⟩ := Bool.and_eq_true_iff.mp h
  exact ⟨crB_ok h1, He5.cmet_of h2 h3⟩
def kCm (c : Nat) (g : List A → Store → Out A) (as : List A) (S : Store) : Out A := g (.val (.cls c) :: as) S
section
variable {X : Cx} {cl : CL} {W : WX} {k c : Nat} {m x : Str} {g : List A → Store → Out A} {p0 pos apos : Pos} {e : Expr} {es : List Expr} {fa : Ev (List A)}
theorem run_cmV {pins : List (Addr × Obj)} {σ : St} {H : Hp} {s : Shared} {C q f : Addr} {sp : Sp} {Q : VK} {us : List Value} {vs : List V} (F : FnP X.prog X.w X.K X.mg X.base k f sp) (B : Bx X W) (hr : Room k X.A) (I : Inv X ((q, PySem.W.methodObj (.ref f) (.ref C)) :: pins) σ H s)
    (r : Vals vs us) (h : sp (.ref C :: vs) H Q (WE W σ)) : wpAny (model X.prog X.w) X.A (call (.ref q) us) (EP X pins σ Q) X.xe s := by
  have z : wpAny (model X.prog X.w) X.A (call (.ref q) us) (EP X ((q, PySem.W.methodObj (.ref f) (.ref C)) :: pins) σ Q) X.xe s := by
    refine wpAny_call (PySem.W.method_call (ClX.pin_at I) (codeAny_mono (F.run X.A X.stack s H (.ref C :: us) (.ref C :: vs) Q (WE W σ) B.gd hr I.env0 (.cons rfl r) h) fun z s' hq => ?_))
    match z, hq with
    | .error e, hq => exact passAt B.tk σ _ H s e s' I hq
    | .ok (.ret u), hq => exact I.after hq
  exact thn z fun _ _ y => ClX.unpinE y
theorem se_cm {pl : Sem Bool} (F : CmR X.prog X.w X.K X.mg X.base cl k c m g) (B : Bx X W) (hr : Room k X.A) (hmx : X.mg x = some (.ref (cl c))) (ha : SA X cl W (e :: es) fa) (hg : Gl X x := by rfl) (hd : (x == ("__debug__" : Str)) = false := by decide)
    (hst : starEach (e :: es) X.env = (false, eval e X.env) :: starEach es X.env := by rfl) (hpl : (backTo pos (starEach es X.env)).any (·.1) = false := by rfl)
    (ht : eval (.Call (.Attribute (.Name x p0) m apos) (e :: es) [] pos) X.env = (do
      let ov ← eval (.Name x p0) X.env
      standAt apos.atName
      let (f, first) ← holding [ov] (getMethod ov m pl)
      callWith pos f first (backTo pos (starEach (e :: es) X.env)) (backToKw pos (keywordEach [] X.env))) := by rfl) :
    SE X cl W (.Call (.Attribute (.Name x p0) m apos) (e :: es) [] pos) (eApp (kCm c g) fa) := by
  obtain ⟨p, f, hr1, hc, F⟩ := F.ex
  obtain ⟨ta, pa, ra⟩ := ha.ex
  refine ⟨fun σ H Q => ta σ H fun vs H1 => SpV X.K cl g (.ref (cl c) :: vs) H1 Q (WE W σ), ⟨fun pins s σ H Q I h => ?_⟩, fun σ Hv H S ad env Q re so q => ?_⟩
  · refine PySem.W.methodCall_KW (pl := pl) (ld_glob I hg hmx ?_ hd) ht
    refine ClX.getmethcm_ok I hr1 hc fun s2 I2 => ?_
    refine ClX.callwith_cm I2 (ClX.base_none I (Nat.le_refl _)) hc.fi (thn (pa.run pos _ s2 σ H _ I2 h) fun us s3 ⟨vs, H2, I3, rv, q2⟩ => ⟨⟨ClX.pin_at I3, I3.kIn⟩, ?_⟩) hst hpl
    exact run_cmV F B hr I3 rv q2
  · exact ra σ Hv H S ad env _ re so (q.bind.mono fun as S1 Hv1 ad1 H1 e1 p1 s1 q1 vs r1 => spV_of s1 (.cons (a := .val (.cls c)) (show RepA _ _ _ _ _ (.val (.cls c)) from Rep.cls) r1) q1)
/-- by keywords alone -/
theorem se_cmK {pl : Sem Bool} {kws : List Keyword} {nms : List Str} (F : CmKR X.prog X.w X.K X.mg X.base cl k c m nms g) (B : Bx X W) (hr : Room k X.A) (hmx : X.mg x = some (.ref (cl c))) (ha : SK X cl W kws fa) (hg : Gl X x := by rfl) (hd : (x == ("__debug__" : Str)) = false := by decide)
    (hall : (backToKw pos (keywordEach kws X.env)).all (·.1.isSome) = true := by rfl) (hks : (backToKw pos (keywordEach kws X.env)).filterMap (·.1) = nms := by rfl) (hpl : ((backTo pos (starEach [] X.env)).any (·.1) || (backToKw pos (keywordEach kws X.env)).any (·.1.isNone)) = false := by rfl)
    (ht : eval (.Call (.Attribute (.Name x p0) m apos) [] kws pos) X.env = (do
      let ov ← eval (.Name x p0) X.env
      standAt apos.atName
      let (f, first) ← holding [ov] (getMethod ov m pl)
      callWith pos f first (backTo pos (starEach [] X.env)) (backToKw pos (keywordEach kws X.env))) := by rfl) :
    SE X cl W (.Call (.Attribute (.Name x p0) m apos) [] kws pos) (eApp (fun as S => if as.length = nms.length then kCm c g as S else .bad) fa) := by
  obtain ⟨p, f, hr1, hc, F⟩ := F.ex
  obtain ⟨ta, pa, ra⟩ := ha.ex
  refine ⟨fun σ H Q => ta σ H fun vs H1 => vs.length = nms.length ∧ SpV X.K cl g (.ref (cl c) :: vs) H1 Q (WE W σ), ⟨fun pins s σ H Q I h => ?_⟩, fun σ Hv H S ad env Q re so q => ?_⟩
  · refine PySem.W.methodCall_KW (pl := pl) (ld_glob I hg hmx ?_ hd) ht
    refine ClX.getmethcm_ok I hr1 hc fun s2 I2 => ?_
    refine PySem.W.callWith_of hpl (PySem.W.keeps_M (K := X.K) (q := s.heap.objs.size) (f := f) (self := .ref (cl c)) hc.fi) (PyProof.Rows.evalArgs_kw2_nil hall (thn (pa.run pos _ s2 σ H _ I2 h) fun us s3 ⟨vs, H2, I3, rv, hl, q2⟩ => ⟨⟨ClX.pin_at I3, I3.kIn⟩, ?_⟩))
    rw [hks]
    have z : wpAny (model X.prog X.w) X.A (call (.ref s.heap.objs.size) [] (nms.zip us)) (EP X ((s.heap.objs.size, PySem.W.methodObj (.ref f) (.ref (cl c))) :: pins) σ Q) X.xe s3 := by
      refine wpAny_call (PySem.W.method_call (ClX.pin_at I3) (codeAny_mono (F.run X.A X.stack s3 H2 [.ref (cl c)] us [.ref (cl c)] vs Q (WE W σ) B.gd hr I3.env0 rfl (by rw [← rv.length, hl]) (.cons rfl .nil) rv q2) fun z s' hq => ?_))
      match z, hq with
      | .error e, hq => exact passAt B.tk σ _ H2 s3 e s' I3 hq
      | .ok (.ret u), hq => exact I3.after hq
    exact thn z fun _ _ y => ClX.unpinE y
  · refine ra σ Hv H S ad env _ re so (q.bind.mono fun as S1 Hv1 ad1 H1 e1 p1 s1 q1 vs r1 => ?_)
    split at q1
    · rename_i hn
      exact ⟨by rw [r1.length, hn], spV_of s1 (.cons (a := .val (.cls c)) (show RepA _ _ _ _ _ (.val (.cls c)) from Rep.cls) r1) q1⟩
    · exact q1.elim
end
end R


namespace R
open PySem L2
/-! ### enumerate(a tuple) -/
theorem meets_enumerate_newT (l : Addr) (items : Array Value) :
    Meets (Builtin.«enumerate.__new__» ⟨[.type "enumerate", .ref l], []⟩) (fun _ R s => s.heap.IsTuple l items ∧
      R (.ok (.ret (.ref (s.heap.push { cls := .type "tuple_iterator", data := .fields #[.ref l, .int 0 0] }).objs.size)))
        { s with heap := (s.heap.push { cls := .type "tuple_iterator", data := .fields #[.ref l, .int 0 0] }).push { cls := .type "enumerate", data := .fields #[.none, .bool false, .ref s.heap.objs.size, rawInt 0, .none, .none] } }) :=
  .of_wp fun prog w A R s h => by
    obtain ⟨hp, g, d, tk, os⟩ := s; obtain ⟨h1, h⟩ := h
    have hsub := sub_enumerate
    have q1 : ∀ {A' : Around} {E : Value → Shared → Prop} {Q : Value → Shared → Prop}, Q (.ref hp.objs.size) ⟨hp.push { cls := .type "tuple_iterator", data := .fields #[.ref l, .int 0 0] }, g, d, tk, os⟩ → wpAny (model prog w) A' (pyIter (.ref l)) Q E ⟨hp, g, d, tk, os⟩ :=
      fun q => wpAny_pyIter_tuple (s := ⟨hp, g, d, tk, os⟩) h1 q
    wp_walk using q1
    refine wpAny_stack_any fun st => wpAny_pure ?_
    split
    · rename_i c _ _ _ _ _
      cases (c == Value.type "enumerate")
      · wp_walk using q1
        exact ⟨_, rfl, h⟩
      · wp_walk using q1
        exact ⟨_, rfl, h⟩
    · wp_walk using q1
      exact ⟨_, rfl, h⟩
theorem call_enumerate_tup {prog : Program} {w : World} {A : Around} {E : Value → Shared → Prop} {s : Shared} {l : Addr} {items : Array Value} {Q : Value → Shared → Prop} (hL : s.heap.IsTuple l items)
    (h : ∀ h', IsEnum h' (s.heap.objs.size + 1) s.heap.objs.size 0 .none → h'.IsTupleIter s.heap.objs.size l 0 → h'.objs.size = s.heap.objs.size + 2 →
      (∀ b o, s.heap.get? b = some o → h'.get? b = some o) → Q (.ref (s.heap.objs.size + 1)) { s with heap := h' }) :
    wpAny (model prog w) A (call (.type "enumerate") [.ref l]) Q E s := by
  refine callType_new F.called_enumerate (by decide) (F.typeCall_enumerate_1 _) (F.newCall_enumerate_1 _) (fun obj => F.args_object_init_2 obj _) F.entry_enumerate_new
    (meets_enumerate_newT l items) ⟨hL, ?_⟩
  have hz : (s.heap.push { cls := .type "tuple_iterator", data := .fields #[.ref l, .int 0 0] }).objs.size = s.heap.objs.size + 1 := Heap.size_push ..
  show _ ∧ _
  rw [hz]
  have he : IsEnum ((s.heap.push { cls := .type "tuple_iterator", data := .fields #[.ref l, .int 0 0] }).push
      { cls := .type "enumerate", data := .fields #[.none, .bool false, .ref s.heap.objs.size, rawInt 0, .none, .none] }) (s.heap.objs.size + 1) s.heap.objs.size 0 .none := by
    have := Heap.get?_push_size (s.heap.push { cls := .type "tuple_iterator", data := .fields #[.ref l, .int 0 0] })
      (o := { cls := .type "enumerate", data := .fields #[.none, .bool false, .ref s.heap.objs.size, rawInt 0, .none, .none] }) rfl
    rw [hz] at this; exact this
  refine ⟨⟨_, he, rfl⟩, h _ he ⟨_, Heap.get?_push_of_some _ (Heap.get?_push_size _ rfl), rfl, rfl⟩ (by rw [Heap.size_push, hz]) fun b o x => Heap.get?_push_of_some _ (Heap.get?_push_of_some _ x)⟩
theorem enum_end_tup {prog : Program} {w : World} {A : Around} {E : Value → Shared → Prop} {s : Shared} {e it l : Addr} {i : Nat} {items : Array Value} {old : Value} {Q : Option Value → Shared → Prop} (hh : A.handled = none)
    (he : IsEnum s.heap e it i old) (hit : s.heap.IsTupleIter it l i) (hl : s.heap.IsTuple l items) (hx : items[i]? = none)
    (hQ : ∀ h', Heap.ExtBut it s.heap h' → Q none { s with heap := h' }) : wpAny (model prog w) A (pyNext (.ref e)) Q E s := by
  have hT : s.TypeIs (.ref e) "enumerate" := ⟨_, he, rfl⟩
  unfold pyNext
  refine wpAny_bind (wpAny_attempt (wpAny_callSpecial?_slot (name := Str.ofString "__next__") hT F.slot_enumerate_next
    (wpAny_call_entry F.slot_enumerate_next hT F.entry_enumerate_next ?_ (F.args_enumerate_next_1 _))))
  show wpAny _ _ (field (.ref e) 2 >>= _) _ _ _
  refine wpAny_bind (wpAny_field he rfl (x := .ref it) rfl ?_)
  refine wpAny_bind (wpAny_nextOf_tuple_end hh hit hl hx fun h' x he' hx' => ?_)
  obtain ⟨o, ho, hc⟩ := hx'
  refine wpAny_bind (wpAny_isInstance (T := "StopIteration") (b := true) ⟨o, ho, hc⟩ isSubtype_stop ?_)
  exact wpAny_pure (hQ _ he')
def IteT (K : PySem.W.Frag) (a : Addr) : It :=
  ⟨fun i H => ∃ (xs : List V) (x : V), SqT K H a xs ∧ xs[i]? = some x, fun i H v H' => ∃ T x, v = .ref T ∧ H T = none ∧ H' = upd H T (.tup [.int (i : Nat), x]) ∧ ∀ xs, SqT K H a xs → xs[i]? = some x, fun i H => ∃ xs : List V, SqT K H a xs ∧ xs.length ≤ i⟩
theorem turn_enumT {P : Program} {w : World} {K : PySem.W.Frag} {elts : List Expr} {kk : Nat} {tpos : Pos} (a e it : Addr) :
    Turn P w K (.Tuple elts kk tpos) (IteT K a) [e, it] e (fun i h => (∃ old, IsEnum h e it ((i : Nat) : Int) old) ∧ h.IsTupleIter it a i ∧ e ≠ it) where
  mem := by simp
  obj := fun i h st b hb => by
    obtain ⟨⟨old, he⟩, ⟨o, ho, hc, hd⟩, _⟩ := st
    have e' : b = e ∨ b = it := by simpa using hb
    rcases e' with z | z
    · rw [z]; exact ⟨_, he, fun v q => nomatch q⟩
    · rw [z]; exact ⟨o, ho, fun v q => by rw [hd] at q; cases q⟩
  keep := fun i h h' st k => let ⟨⟨old, he⟩, hi, hne⟩ := st; ⟨⟨old, k e (by simp) _ he⟩, hi.at fun o q => k it (by simp) o q, hne⟩
  item := by
    intro X hP hw hK hc i pins s σ H E I hf st hg
    subst hP hw hK
    obtain ⟨⟨old, he⟩, hit, hne⟩ := st
    obtain ⟨xs, x, hq, hx⟩ := hg
    obtain ⟨its, rv, p, hz⟩ := I.tuple hq
    obtain ⟨u, hu, ru⟩ := rv.get hx
    have hel : e < s.heap.objs.size := Heap.lt_size he
    have hil : it < s.heap.objs.size := by obtain ⟨_, q, _⟩ := hit; exact Heap.lt_size q
    have hT : s.heap.IsTuple a its.toArray := p
    have nai : a ≠ it := fun z => by
      obtain ⟨o1, e1, c1, _⟩ := hT
      obtain ⟨o2, e2, c2, _⟩ := hit
      rw [z, e2] at e1
      cases e1
      rw [c2] at c1
      exact absurd c1 (by decide)
    have nae : e ∉ [it, a] := fun z => by
      rcases List.mem_cons.mp z with z | z
      · exact hne z
      · obtain ⟨o1, e1, c1, _⟩ := hT
        rw [← List.mem_singleton.mp z, he] at e1
        cases e1
        exact absurd (show Value.type "enumerate" = Value.type "tuple" from c1) (by decide)
    have hlt : i < its.toArray.size := by
      have := (List.getElem?_eq_some_iff.mp hu).1
      simpa using this
    refine wpAny_pyNext_enum_itemD (Draws.tuple (A := X.A.in1) (I.ok.hd hc) it a nai its.toArray) he ⟨hit, hT⟩ hlt hne nae fun y h' tk hy ho hst' hT' hsz hk => ?_
    obtain rfl : y = u := by
      have hy' : its.toArray[i]? = some y := hy
      rw [List.getElem?_toArray, hu] at hy'
      exact (Option.some.inj hy').symm
    refine ⟨_, rfl, wpAny_letOwnedTupleGo_enum (s := { s with heap := h', toks := tk + 1 }) ho fun h'' he' sb => ?_⟩
    have hT2 : h''.get? s.heap.objs.size = some { cls := .type "tuple", data := .seq #[.int i tk, y] } := (sb.2 _ (Nat.ne_of_gt hel)).trans hT'
    have new : ObjOk X.prog X.w (upd H s.heap.objs.size (.tup [.int (i : Nat), x])) h'' s.heap.objs.size (.tup [.int (i : Nat), x]) :=
      ⟨by show 2 ≤ sizeLine; decide, [.int i tk, y], .cons ⟨_, rfl⟩ (.cons ru .nil), ⟨_, hT2, rfl, _, rfl⟩⟩
    have I1 : Inv X pins σ (upd H s.heap.objs.size (.tup [.int (i : Nat), x])) { s with heap := h'', toks := tk + 1 } :=
      I.turnedNew (ch := [e, it]) (fun b ob hb q => (sb.2 b (fun z => hb (by simp [z]))).trans (hk b ob (fun z => hb (by simp [z])) (fun z => hb (by simp [z])) q)) hf (Nat.le_refl _) new
    refine ⟨.ref s.heap.objs.size, _, I1, rfl, ⟨_, x, rfl, I.hok.fresh (Nat.le_refl _), rfl, fun ys hy => by rw [I.tuple_inj hy hq]; exact hx⟩, ⟨⟨y, ?_⟩, hst'.1.at fun o q => (sb.2 it (Ne.symm hne)).trans q, hne⟩, fun b hb => ?_⟩
    · have e1 : ((i + 1 : Nat) : Int) = (i : Int) + 1 := by omega
      rw [e1]; exact he'
    · have hb' : b < s.heap.objs.size := by
        have e' : b = e ∨ b = it := by simpa using hb
        rcases e' with z | z
        · rw [z]; exact hel
        · rw [z]; exact hil
      rw [upd_ne (Nat.ne_of_lt hb')]
      exact (hf b hb).1
  done := by
    intro X hP hw hK hc i pins s σ H E I hf st hg
    subst hP hw hK
    obtain ⟨⟨old, he⟩, hit, hne⟩ := st
    obtain ⟨xs, hq, hx⟩ := hg
    obtain ⟨its, rv, p, hz⟩ := I.tuple hq
    obtain ⟨f0, f1, f2, f3, f4, f5⟩ := hf it (by simp)
    have hl := rv.length
    exact enum_end_tup (I.ok.hd hc) he hit (show s.heap.IsTuple a its.toArray from p) (by simp; omega) fun h' eb => ⟨rfl, I.turned (t' := s.toks) (fun b o hb q => eb b o hb q) f0 f1 f3 f4 f5⟩
  self := fun A i s Q E st h => let ⟨⟨_, he⟩, _⟩ := st; wpAny_pyIter_enum he h
end R
namespace R
open PySem L2
theorem walk_enumT {cl : CL} {K : PySem.W.Frag} {a : Addr} {xs : List V} {ds : List D} {Hv : Hp} (h : SqT K Hv a xs) (r : Reps K cl Hv xs ds) : WalkOk K cl (IteT K a) (enumD ds) Hv := fun i Hv1 H1 e1 e2 => by
  have h1 : SqT K H1 a xs := ex_t (e1.trans e2) h
  have hl : (enumD ds).length = ds.length := by simp [enumD]
  refine ⟨fun hi => ⟨xs, h1, by rw [r.length, ← hl]; exact hi⟩, fun d hd => ?_⟩
  have hi : i < ds.length := by
    have := (List.getElem?_eq_some_iff.mp hd).1
    omega
  obtain ⟨d0, hd0⟩ : ∃ d0, ds[i]? = some d0 := ⟨ds[i], List.getElem?_eq_getElem hi⟩
  have ed : d = .tup [.int (i : Nat), d0] := by
    unfold enumD at hd
    rw [List.getElem?_zipWith, List.getElem?_range hi, hd0] at hd
    cases hd
    rfl
  subst ed
  obtain ⟨x, hx, rx⟩ := r.get hd0
  refine ⟨⟨xs, x, h1, hx⟩, fun y H' hy S ad so => ?_⟩
  obtain ⟨T, z, rfl, hT, rfl, hz⟩ := hy
  have e := hz xs h1
  rw [hx] at e
  cases e
  exact ⟨upd Hv1 T _, Ex.new (so.ex.nn hT), so.new hT, .tup (.inl (.inl upd_same)) (.cons .int (.cons (rx.mono (e1.trans (Ex.new (so.ex.nn hT)))) .nil))⟩
/-- enumerate of a list or a tuple -/
def kEnumT (as : List A) (S : Store) : Out (List D) := match as with
  | [.val (.lst ds)] => .ok (enumD ds) S
  | [.val (.tup ds)] => .ok (enumD ds) S
  | _ => .bad
def iEnumT (f : Ev (List A)) : Ev (List D) := fun env S => (f env S).bind kEnumT
section
variable {X : Cx} {cl : CL} {W : WX} {p pos : Pos}
theorem si_enumT {e : Expr} {elts : List Expr} {kk : Nat} {tpos : Pos} {f : Ev (List A)} (h : SA X cl W [e] f) (hm : X.mg "enumerate" = none) (hg : Gl X "enumerate" := by rfl) (hs : starEach [e] X.env = [(false, eval e X.env)] := by rfl) : SI X cl W (.Tuple elts kk tpos) (.Call (.Name "enumerate" p) [e] [] pos) (iEnumT f) := by
  obtain ⟨t, pa, r⟩ := h.ex
  refine ⟨cI X.K cl W (iEnumT f), ⟨fun pins s σ H R I z => ?_⟩, fun σ Hv H S ad env R re so q => ⟨Hv, S, ad, env, re, so, q⟩⟩
  obtain ⟨Hv, S, ad, env, rn, so, q⟩ := z
  have key := pa.run pos pins s σ H (fun vs H1 => ∃ S1 Hv1 ad1 as, StOk X.K cl Hv1 H1 S1 ad1 ∧ RepAs X.K cl Hv1 ad1 vs as ∧ Pst X.K cl W σ Hv1 ad1 (fun ds _ Hv' _ H' => ∀ J, WalkOk X.K cl J ds Hv' → R J H') (kEnumT as S1)) I
    (r σ Hv H S ad env _ rn so (Pst.mono (Pst.bind q) fun as S1 Hv1 ad1 H1 e1 p1 s1 q1 vs r1 => ⟨S1, Hv1, ad1, as, s1, r1, q1⟩))
  refine PyProof.Rows.Call_ (ld_blt I hg hm (by decide +kernel : bootBuiltins "enumerate" = some (.type "enumerate")) (PyProof.Rows.callWith_type1 (wpAny_mono key (fun us s1 hu => ?_) fun _ _ z => z) hs rfl))
  obtain ⟨vs, H1, I1, r1, S1, Hv1, ad1, as, s1', rs, q1⟩ := hu
  have fp : ∀ b, b ∈ [s1.heap.objs.size + 1, s1.heap.objs.size] → FpOk X pins H1 b := fun b hb => by
    have e' : b = s1.heap.objs.size + 1 ∨ b = s1.heap.objs.size := by simpa using hb
    have hle : s1.heap.objs.size ≤ b := by
      rcases e' with z | z
      · rw [z]; exact Nat.le_add_right _ _
      · rw [z]; exact Nat.le_refl _
    exact I1.fpOk hle (I1.hok.fresh hle)
  unfold kEnumT at q1
  split at q1
  · obtain ⟨v, rfl, rv⟩ := rep1 rs
    cases rv with
    | lst hl rs' =>
      cases r1 with
      | cons ra rr =>
        cases rr
        cases ra
        have hq := ex_l s1'.ex (.inl (.inl hl) : SqL X.K Hv1 _ _)
        obtain ⟨its, rv, p', hz⟩ := I1.list hq
        refine call_enumerate_list p'.isList fun h' he hit hsz hk => wpAny_pyIter_enum he ?_
        have I2 : Inv X pins σ H1 { s1 with heap := h' } := I1.kept (t' := s1.toks) hk
        exact ⟨s1.heap.objs.size + 1, [s1.heap.objs.size + 1, s1.heap.objs.size], _, _, H1, rfl, I2, turn_enum _ (s1.heap.objs.size + 1) s1.heap.objs.size, ⟨⟨.none, he⟩, hit, Nat.succ_ne_self _⟩, fp, q1 Hv1 ad1 H1 (Ex.refl _) (Pre.refl _) s1' _ (walk_enum (.inl (.inl hl)) rs')⟩
  · obtain ⟨v, rfl, rv⟩ := rep1 rs
    cases rv with
    | tup hl rs' =>
      cases r1 with
      | cons ra rr =>
        cases rr
        cases ra
        obtain ⟨its, rv, p', hz⟩ := I1.tuple (ex_t s1'.ex hl)
        refine call_enumerate_tup (show s1.heap.IsTuple _ its.toArray from p') fun h' he hit hsz hk => wpAny_pyIter_enum he ?_
        have I2 : Inv X pins σ H1 { s1 with heap := h' } := I1.kept (t' := s1.toks) hk
        exact ⟨s1.heap.objs.size + 1, [s1.heap.objs.size + 1, s1.heap.objs.size], _, _, H1, rfl, I2, turn_enumT _ (s1.heap.objs.size + 1) s1.heap.objs.size, ⟨⟨.none, he⟩, hit, Nat.succ_ne_self _⟩, fp, q1 Hv1 ad1 H1 (Ex.refl _) (Pre.refl _) s1' _ (walk_enumT hl rs')⟩
  · exact q1.elim
end
end R


namespace R
open PySem L2
/-! ### o.m(e, ..), a method of a built-in type -/
def bty (S : Store) : A → Option String
  | .val (.str _) => some "str"
  | .val (.int _) => some "int"
  | .val (.lst _) => some "list"
  | .loc n => (match S[n]? with
    | some (some (.lst _)) => some "list"
    | some (some (.dic _ _)) => some "dict"
    | some (some (.dit _ _)) => some "dict"
    | _ => none)
  | _ => none
theorem bty_at {K : PySem.W.Frag} {cl : CL} {Hv H : Hp} {S : Store} {ad : List Addr} {v : V} {a : A} {T : String} (so : StOk K cl Hv H S ad) (r : RepA K cl Hv ad v a) (e : bty S a = some T) : tyV K T v H := by
  cases a with
  | fv k => cases e
  | val d =>
    cases d <;> first
      | (cases e; cases r; rfl)
      | (cases e; cases r with | lst hq rs => exact .inl ⟨rfl, _, ex_l so.ex (.inl (.inl hq))⟩)
      | cases e
  | loc n =>
    obtain ⟨p, rfl, hp⟩ := r
    unfold bty at e
    dsimp only at e
    split at e
    · rename_i ds es
      cases e
      obtain ⟨p', h1, _, xs, h3, h4⟩ := so.at_ n _ es
      rw [hp] at h1
      cases h1
      exact .inl ⟨rfl, xs, .inl (.inl h3)⟩
    · rename_i ks vs es
      cases e
      obtain ⟨p', h1, _, kvs, h3, h4⟩ := so.at_ n _ es
      rw [hp] at h1
      cases h1
      exact .inr (.inr (.inl ⟨rfl, .inl ⟨kvs, h3⟩⟩))
    · rename_i ks vs es
      cases e
      obtain ⟨p', h1, _, kvs, h3, h4⟩ := so.at_ n _ es
      rw [hp] at h1
      cases h1
      exact .inr (.inr (.inl ⟨rfl, .inr ⟨kvs, h3⟩⟩))
    · cases e
def RdM (K : PySem.W.Frag) (cl : CL) (W : WX) (r : V → List V → Hp → VK → Prop) (k : A → List A → Store → Out A) : Prop := ∀ (σ : St) (Hv H : Hp) (S : Store) (ad : List Addr) (x : V) (xs : List V) (a : A) (as : List A) (Q : VK), StOk K cl Hv H S ad → RepA K cl Hv ad x a → RepAs K cl Hv ad xs as → Pst K cl W σ Hv ad (RA K cl Q) (k a as S) → r x xs H Q
def kBm (T : String) (k : A → List A → Store → Out A) (fa : Ev (List A)) (env : Env) (o : A) (S : Store) : Out A := if bty S o = some T then (fa env S).bind (k o) else .bad
def eBm (T : String) (k : A → List A → Store → Out A) (fo : Ev A) (fa : Ev (List A)) : Ev A := fun env S => (fo env S).bind (kBm T k fa env)
section
variable {X : Cx} {cl : CL} {W : WX} {o e : Expr} {es : List Expr} {name : Str} {apos cpos : Pos} {T id : String} {k : A → List A → Store → Out A} {fo : Ev A} {fa : Ev (List A)}
theorem se_bm (pa : PlainAttrs T) (slot : Slot T name id) (hty : typeOf (.builtin id) = pure (.type "method_descriptor")) (hm : ∃ r, L2.MtR X id r ∧ RdM X.K cl W r k) (ho : SE X cl W o fo) (ha : SA X cl W (e :: es) fa)
    (hbase : attributeBase o name X.env (eval o X.env) = eval o X.env := by rfl)
    (hfew : ((backTo cpos (starEach (e :: es) X.env)).all (fun x => !x.1) && (backToKw cpos (keywordEach [] X.env)).all (fun x => x.1.isSome)
      && decide ((e :: es).length + ([] : List Keyword).length + (if ([] : List Keyword).isEmpty then 0 else 1) < 30)) = true := by rfl)
    (hline : (apos.endLine == cpos.line) = true := by rfl) (hs : starEach (e :: es) X.env = (false, eval e X.env) :: starEach es X.env := by rfl) (hplain : (backTo cpos (starEach es X.env)).any (·.1) = false := by rfl) :
    SE X cl W (.Call (.Attribute o name apos) (e :: es) [] cpos) (eBm T k fo fa) := by
  obtain ⟨_, po, ro⟩ := ho.ex
  obtain ⟨_, pe, re'⟩ := ha.ex
  obtain ⟨r, hm, rm⟩ := hm
  refine ⟨_, pe_bm pa slot hty hm po pe hbase hfew hline hs hplain, fun σ Hv H S ad env Q re so q => ?_⟩
  refine ro σ Hv H S ad env _ re so (Pst.mono (Pst.bind q) fun z S1 Hv1 ad1 H1 e1 p1 s1 q1 v1 r1 => ?_)
  unfold kBm at q1
  split at q1
  · rename_i hb
    exact ⟨bty_at s1 r1 hb, re' σ Hv1 H1 S1 ad1 env _ (re.mono e1 p1) s1 (Pst.mono (Pst.bind q1) fun as S2 Hv2 ad2 H2 e2 p2 s2 q2 vs rs => rm σ Hv2 H2 S2 ad2 v1 vs z as Q s2 (r1.mono e2 p2) rs q2)⟩
  · exact q1.elim
theorem se_bm0 (pa : PlainAttrs T) (slot : Slot T name id) (hty : typeOf (.builtin id) = pure (.type "method_descriptor")) (hm : ∃ r, L2.MtR X id r ∧ RdM X.K cl W r k) (ho : SE X cl W o fo)
    (hbase : attributeBase o name X.env (eval o X.env) = eval o X.env := by rfl) (hline : (apos.endLine == cpos.line) = true := by rfl) : SE X cl W (.Call (.Attribute o name apos) [] [] cpos) (eBm T k fo eNil) := by
  obtain ⟨_, po, ro⟩ := ho.ex
  obtain ⟨r, hm, rm⟩ := hm
  refine ⟨_, pe_bm0 pa slot hty hm po hbase hline, fun σ Hv H S ad env Q re so q => ?_⟩
  refine ro σ Hv H S ad env _ re so (Pst.mono (Pst.bind q) fun z S1 Hv1 ad1 H1 e1 p1 s1 q1 v1 r1 => ?_)
  unfold kBm at q1
  split at q1
  · rename_i hb
    exact ⟨bty_at s1 r1 hb, rm σ Hv1 H1 S1 ad1 v1 [] z [] Q s1 r1 .nil q1⟩
  · exact q1.elim
end
/-! list.pop(i) -/
def kPop (o : A) (as : List A) (S : Store) : Out A := match o, as with
  | .loc n, [.val (.int i)] => (match S[n]? with
    | some (some (.lst ds)) => if -(2 ^ 63) ≤ i ∧ i < 2 ^ 63 then (match seqIndex? i ds.length with
      | some j => (match ds[j]? with
        | some d => .ok (.val d) (S.set n (some (.lst (ds.eraseIdx j))))
        | none => .bad)
      | none => .bad) else .bad
    | _ => .bad)
  | _, _ => .bad
theorem Reps.eraseIdx {K : PySem.W.Frag} {cl : CL} {H : Hp} : ∀ {vs : List V} {ds : List D} (i : Nat), Reps K cl H vs ds → Reps K cl H (vs.eraseIdx i) (ds.eraseIdx i)
  | _, _, _, .nil => .nil
  | _, _, 0, .cons _ b => b
  | _, _, i + 1, .cons a b => .cons a (Reps.eraseIdx i b)
section
variable {X : Cx} {cl : CL} {W : WX}
theorem m_pop : ∃ r, L2.MtR X "list.pop" r ∧ RdM X.K cl W r kPop := ⟨rPopAt, mt_popAt, fun σ Hv H S ad x xs a as Q so ra rs q => by
  unfold kPop at q
  split at q
  · rename_i n i
    split at q
    · rename_i ds es
      split at q
      · rename_i hi
        split at q
        · rename_i j ej
          split at q
          · rename_i d ed
            obtain ⟨v, rfl, rv⟩ := rep1 rs
            cases rv
            obtain ⟨p, rfl, hp⟩ := ra
            obtain ⟨p', h1, h2, ys, h3, h4⟩ := so.at_ n _ es
            rw [hp] at h1
            cases h1
            obtain ⟨y, hy, ry⟩ := h4.get ed
            refine ⟨p, ys, i, j, y, rfl, rfl, h3, hi.1, hi.2, by rw [h4.length]; exact ej, hy, ?_⟩
            exact q Hv ad _ (Ex.refl _) (Pre.refl _) (so.write (c' := .lst (ds.eraseIdx j)) es hp ⟨_, upd_same, h4.eraseIdx j⟩) y ry
          · exact q.elim
        · exact q.elim
      · exact q.elim
    · exact q.elim
  · exact q.elim⟩
/-! str.split(sep), str.join(texts) -/
def strs? : List D → Option (List Str)
  | [] => some []
  | .str x :: r => (strs? r).map (x :: ·)
  | _ => none
theorem strs_eq : ∀ {ds : List D} {xs : List Str}, strs? ds = some xs → ds = xs.map D.str
  | [], _, e => by
    cases e
    rfl
  | d :: r, xs, e => by
    cases d <;> first
      | (rename_i x
         have e2 : (strs? r).map (x :: ·) = some xs := e
         cases q : strs? r with
         | none => rw [q] at e2; cases e2
         | some ys =>
           rw [q] at e2
           cases e2
           rw [strs_eq q]
           rfl)
      | cases e
def kSplit (o : A) (as : List A) (S : Store) : Out A := match o, as with
  | .val (.str a), [.val (.str b)] => if (b.length == 0) = false ∧ a.length ≤ 100000 then .ok (.val (.lst ((Txt.split a b).map D.str))) S else .bad
  | _, _ => .bad
theorem m_split : ∃ r, L2.MtR X "str.split" r ∧ RdM X.K cl W r kSplit := ⟨_, mt_split, fun σ Hv H S ad x xs a as Q so ra rs q => by
  unfold kSplit at q
  split at q
  · rename_i a b
    split at q
    · rename_i hb
      obtain ⟨v, rfl, rv⟩ := rep1 rs
      cases rv
      cases ra
      refine ⟨a, b, rfl, rfl, hb.1, Nat.le_trans (Nat.add_le_add_right hb.2 2) (by decide), fun p hp => q.made so hp (.lst upd_same (reps_strs _))⟩
    · exact q.elim
  · exact q.elim⟩
def joinA (S : Store) : A → Option (List D)
  | .val (.lst ds) => some ds
  | .val (.tup ds) => some ds
  | .loc n => (match S[n]? with
    | some (some (.lst ds)) => some ds
    | _ => none)
  | _ => none
def kJoin (o : A) (as : List A) (S : Store) : Out A := match o, as with
  | .val (.str a), [b] => (match starA S b with
    | some ds => (match strs? ds with
      | some xs => if (xs.map (·.length)).sum + xs.length * a.length ≤ 100000 then .ok (.val (.str (Txt.join a xs))) S else .bad
      | none => .bad)
    | none => .bad)
  | _, _ => .bad
theorem m_join : ∃ r, L2.MtR X "str.join" r ∧ RdM X.K cl W r kJoin := ⟨_, mt_join, fun σ Hv H S ad x xs a as Q so ra rs q => by
  unfold kJoin at q
  split at q
  · rename_i a b
    split at q
    · rename_i ds ed
      split at q
      · rename_i ys ey
        split at q
        · rename_i hz
          obtain ⟨v, rfl, rv⟩ := rep1 rs
          cases ra
          obtain ⟨p, vs, rfl, hsq, rr⟩ := starA_at so rv ed
          rw [strs_eq ey] at rr
          have e := rr.strs
          subst e
          exact ⟨a, p, ys, rfl, rfl, hsq.symm, Nat.le_trans hz (by decide), q.here so _ .str⟩
        · exact q.elim
      · exact q.elim
    · exact q.elim
  · exact q.elim⟩
end
end R


namespace R
open PySem L2
/-! ### xs[::-1] -/
section
variable {prog : Program} {w : World} {A : Around} {E : Value → Shared → Prop} {s : Shared}
theorem sliceApplied_rev {sl : Addr} {vl vu vs : Value} {n : Nat} {Q : Int × Int × Nat → Shared → Prop} (hs : s.heap.IsSliceOf sl vl vu vs) (pl : IsPart vl none) (pu : IsPart vu none) (ps : IsPart vs (some (-1)))
    (h : Q ((n : Int) - 1, -1, n) s) : wpAny (model prog w) A (Builtin.Slice.sliceApplied (.ref sl) (pure (n : Int))) Q E s := by
  obtain ⟨os, hos, hcs, hds⟩ := id hs
  unfold Builtin.Slice.sliceApplied Builtin.Slice.sliceFields
  refine wpAny_bind (wpAny_bind (wpAny_field hos hds (x := vl) rfl (wpAny_bind (wpAny_field hos hds (x := vu) rfl (wpAny_bind (wpAny_field hos hds (x := vs) rfl (wpAny_pure ?_)))))))
  refine wpAny_bind (HT.slicePart_ ps ?_)
  show wpAny _ _ (if ((-1 : Int) == 0) = true then _ else _) _ _ s
  rw [if_neg (by decide)]
  refine wpAny_bind (HT.slicePart_ pl (wpAny_bind (HT.slicePart_ pu (wpAny_bind (wpAny_pure ?_)))))
  show wpAny _ _ (pure ((n : Int) - 1, (-1 : Int), Builtin.Slice.slicePlaces ((n : Int) - 1) (-1) (-1))) _ _ s
  have e : Builtin.Slice.slicePlaces ((n : Int) - 1) (-1) (-1) = n := by
    unfold Builtin.Slice.slicePlaces
    rw [if_neg (by omega)]
    have e1 : (-(-1) : Int) = 1 := by decide
    rw [e1, Int.ediv_one]
    by_cases hn : (n : Int) - 1 > -1
    · rw [if_pos hn]; omega
    · rw [if_neg hn]; omega
  rw [e]
  exact wpAny_pure h
theorem pick_rev (xs : Array Value) : ((List.range xs.size).filterMap fun (m : Nat) => xs[((xs.size : Int) - 1 + (m : Int) * -1).toNat]?).toArray = xs.toList.reverse.toArray := by
  congr 1
  apply List.ext_getElem?
  intro i
  have h1 : ∀ m, m ∈ List.range xs.size → (fun (m : Nat) => xs[((xs.size : Int) - 1 + (m : Int) * -1).toNat]?) m = (fun m => some (xs.toList.reverse.getD m default)) m := fun m hm => by
    have hm := List.mem_range.mp hm
    dsimp only
    have e : ((xs.size : Int) - 1 + (m : Int) * -1).toNat = xs.size - 1 - m := by omega
    rw [e, List.getD_eq_getElem?_getD, List.getElem?_reverse (by simpa using hm)]
    have hl : xs.size - 1 - m < xs.size := by omega
    simp [Array.getElem?_eq_getElem hl]
  have h2 : ((List.range xs.size).filterMap fun (m : Nat) => xs[((xs.size : Int) - 1 + (m : Int) * -1).toNat]?) = (List.range xs.size).map fun m => xs.toList.reverse.getD m default := by
    have key : ∀ (l : List Nat), (∀ m ∈ l, m ∈ List.range xs.size) → (l.filterMap fun (m : Nat) => xs[((xs.size : Int) - 1 + (m : Int) * -1).toNat]?) = l.map fun m => xs.toList.reverse.getD m default := fun l => by
      induction l with
      | nil => intro _; rfl
      | cons a r ih =>
        intro hl
        have e := h1 a (hl a (List.mem_cons_self ..))
        dsimp only at e
        rw [List.filterMap_cons, e, List.map_cons, ih fun m hm => hl m (List.mem_cons_of_mem _ hm)]
    exact key _ fun m hm => hm
  rw [h2, List.getElem?_map]
  by_cases hi : i < xs.size
  · rw [List.getElem?_range hi]
    have : i < xs.toList.reverse.length := by simpa using hi
    simp [List.getD_eq_getElem?_getD, List.getElem?_eq_getElem this]
  · rw [List.getElem?_eq_none (by simpa using hi), List.getElem?_eq_none (by simpa using hi)]
    rfl
theorem getItem_tuple_rev {t sl : Addr} {items : Array Value} {vl vu vs : Value} {Q : Value → Shared → Prop} (ht : PyProof.Rows.IsTup s.heap t items) (hs : s.heap.IsSliceOf sl vl vu vs) (pl : IsPart vl none) (pu : IsPart vu none) (ps : IsPart vs (some (-1)))
    (h : Q (.ref s.heap.objs.size) { s with heap := s.heap.push { cls := .type "tuple", data := .seq items.toList.reverse.toArray } }) (hsz : items.size ≤ sizeLine) : wpAny (model prog w) A (getItem (.ref t) (.ref sl)) Q E s := by
  have htake : sizeOk (.seq items.toList.reverse.toArray) := by
    show items.toList.reverse.toArray.size ≤ sizeLine
    rw [List.size_toArray, List.length_reverse, Array.length_toList]
    exact hsz
  obtain ⟨os, hos, hcs, hds⟩ := id hs
  have hTs : s.TypeIs (.ref sl) "slice" := ⟨os, hos, hcs⟩
  unfold getItem
  try with_reducible refine wpAny_holding ?_
  first | refine wpAny_bind (wpAny_pure ?_) | skip
  refine wpAny_bind (wpAny_sequenceKey ht.typeIs (by decide) ?_)
  refine wpAny_bind (wpAny_callSpecial?_slot (name := Str.ofString "__getitem__") ht.typeIs PyProof.Rows.slot_tuple_getitem
    (wpAny_call_entry PyProof.Rows.slot_tuple_getitem ht.typeIs PyProof.Rows.entry_tuple_getitem ?_ (PyProof.Rows.args_tuple_getitem _ _)))
  show wpAny _ _ (Builtin.Tuple.tupleItemsOf (.ref t) >>= _) _ _ s
  refine wpAny_bind (PyProof.Rows.tupleItemsOf_ ht ?_)
  refine wpAny_bind (wpAny_typeOf hTs ?_)
  rw [if_pos (by decide)]
  refine wpAny_bind (sliceApplied_rev hs pl pu ps ?_)
  have hno : ¬ ((((items.size : Int) - 1) == 0 && (-1 : Int) == 1 && items.size == items.size) = true) := by
    intro q
    rw [Bool.and_eq_true, Bool.and_eq_true] at q
    exact absurd (eq_of_beq q.1.2) (by decide)
  show wpAny _ _ (if (((items.size : Int) - 1) == 0 && (-1 : Int) == 1 && items.size == items.size) = true then _ else _) _ _ s
  rw [if_neg hno, pick_rev]
  first
    | exact wpAny_bind (m := Builtin.Tuple.tupleExact _) (wpAny_newObj_type (wpAny_pure ⟨_, rfl, wpAny_pure h⟩) htake)
    | exact wpAny_bind (m := Builtin.Tuple.tupleExact _) (wpAny_newObj_type (wpAny_bind (wpAny_pure (wpAny_pure ⟨_, rfl, wpAny_pure h⟩))) htake)
    | exact wpAny_bind (wpAny_bind (m := Builtin.Tuple.tupleExact _) (wpAny_newObj_type (wpAny_pure (wpAny_pure ⟨_, rfl, wpAny_pure h⟩)) htake))
    | exact wpAny_bind (wpAny_bind (m := Builtin.Tuple.tupleExact _) (wpAny_newObj_type (wpAny_pure ⟨_, rfl, wpAny_pure h⟩) htake))
end
end R


namespace R
open PySem L2
open PyProof.Rows (subscriptTail)
def hRev (a : A) (S : Store) : Out A := match a with
  | .val (.lst ds) => .ok (.val (.lst ds.reverse)) S
  | .val (.tup ds) => .ok (.val (.tup ds.reverse)) S
  | .loc n => (match S[n]? with
    | some (some (.lst ds)) => .ok (.val (.lst ds.reverse)) S
    | _ => .bad)
  | _ => .bad
section
variable {X : Cx} {cl : CL} {W : WX} {e : Expr} {f : Ev A}
theorem se_rev {k : Nat} {p1 p2 p3 pos : Pos} (he : SE X cl W e f) : SE X cl W (.Subscript e (.Slice none none (some (.UnaryOp .USub (.Constant (.int 1) k p1) p2)) p3) pos) (eUn hRev f) := by
  obtain ⟨te, pe, rE⟩ := he.ex
  refine ⟨cE X.K cl W (eUn hRev f), ⟨fun pins s σ H Q I z => ?_⟩, fun σ Hv H S ad env Q re so q => ⟨Hv, S, ad, env, re, so, q⟩⟩
  obtain ⟨Hv, S, ad, env, re, so, q⟩ := z
  have key := pe.run pins s σ H (fun y H1 => ∃ S1 Hv1 ad1 b, StOk X.K cl Hv1 H1 S1 ad1 ∧ RepA X.K cl Hv1 ad1 y b ∧ Pst X.K cl W σ Hv1 ad1 (RA X.K cl Q) (hRev b S1)) I
    (rE σ Hv H S ad env _ re so (Pst.mono (Pst.bind q) fun b S1 Hv1 ad1 H1 e1 p1 s1 q1 v1 r1 => ⟨S1, Hv1, ad1, b, s1, r1, q1⟩))
  refine PyProof.Rows.Subscript_ (wpAny_mono key (fun v s1 hv => ?_) fun _ _ z => z)
  obtain ⟨x, H1, I1, r1, S1, Hv1, ad1, b, so1, rb, q1⟩ := hv
  have hst : PO X (some (.UnaryOp .USub (.Constant (.int 1) k p1) p2)) (tPart (tUn (rU fun i => .int (-i)) (tC (.int 1)))) := po_some (pe_un un_neg pe_int)
  have shape : (∃ p xs ds, x = .ref p ∧ SqL X.K H1 p xs ∧ Reps X.K cl Hv1 xs ds ∧ Pst X.K cl W σ Hv1 ad1 (RA X.K cl Q) (.ok (.val (.lst ds.reverse)) S1)) ∨ (∃ p xs ds, x = .ref p ∧ SqT X.K H1 p xs ∧ Reps X.K cl Hv1 xs ds ∧ Pst X.K cl W σ Hv1 ad1 (RA X.K cl Q) (.ok (.val (.tup ds.reverse)) S1)) := by
    unfold hRev at q1
    split at q1
    · cases rb with
      | lst hq rs => exact .inl ⟨_, _, _, rfl, ex_l so1.ex (.inl (.inl hq)), rs, q1⟩
    · cases rb with
      | tup hq rs => exact .inr ⟨_, _, _, rfl, ex_t so1.ex hq, rs, q1⟩
    · split at q1
      · rename_i n _ ds es
        obtain ⟨p, rfl, hp⟩ := rb
        obtain ⟨p', h1, _, xs, h3, h4⟩ := so1.at_ n _ es
        rw [hp] at h1
        cases h1
        exact .inl ⟨p, xs, ds, rfl, .inl (.inl h3), h4, q1⟩
      · exact q1.elim
    · exact q1.elim
  refine wpAny_Slice (thn (po_none.run pins s1 σ H1 (fun o H2 => o = none ∧ H2 = H1) I1 ⟨rfl, rfl⟩) fun vl s2 ⟨l, H2, I2, pl, el, e2⟩ => ?_)
  subst el e2
  refine thn (po_none.run pins s2 σ H2 (fun o H3 => o = none ∧ H3 = H2) I2 ⟨rfl, rfl⟩) fun vu s3 ⟨u, H3, I3, pu, eu, e3⟩ => ?_
  subst eu e3
  refine thn (hst.run pins s3 σ H3 (fun o H4 => o = some (-1) ∧ H4 = H3) I3 ⟨1, rfl, -1, rfl, rfl, rfl⟩) fun vs s4 ⟨o, H4, I4, ps, eo, e4⟩ => ?_
  subst eo e4
  have I5 : Inv X pins σ H4 { s4 with heap := s4.heap.push { cls := .type "slice", data := .fields #[vl, vu, vs] } } := I4.kept (t' := s4.toks) fun b ob q => Heap.get?_push_of_some _ q
  rcases shape with ⟨a, xs, ds, rfl, hx, rs, q2⟩ | ⟨a, xs, ds, rfl, hx, rs, q2⟩
  · cases r1
    obtain ⟨its, r, ht, hz⟩ := I5.list hx
    have hlen := r.length
    show wpAny (model X.prog X.w) X.A (subscriptTail e (.Slice none none (some (.UnaryOp .USub (.Constant (.int 1) k p1) p2)) p3) (.ref a) (.ref s4.heap.objs.size)) (EP X pins σ Q) X.xe { s4 with heap := s4.heap.push { cls := .type "slice", data := .fields #[vl, vu, vs] } }
    refine PyProof.Rows.tail_any (ops := [.ref a, .ref s4.heap.objs.size]) ht.isList.typeIs (PySem.slot_list_getitem.lookup) ?_ (by with_unfolding_all rfl)
    refine wpAny_getItem_list_slice ht.isList (Heap.IsSliceOf.new _ vl vu vs) pl pu ps (by decide) ?_ (by rw [List.size_toArray]; omega)
    rw [PySem.W.krv_pick]
    have hfr := I5.hok.fresh (Nat.le_refl _)
    refine ⟨.ref _, _, I5.laid (t' := s4.toks) (o := .lst xs.reverse) (fun b ob q => Heap.get?_push_of_some _ q) (Nat.le_refl _) ?_, rfl, q2.made so1 hfr (.lst upd_same (rs.reverse.mono (Ex.new (so1.ex.nn hfr))))⟩
    exact ⟨by rw [List.length_reverse]; exact hz, _, 0, r.reverse, Heap.get?_push_size _ rfl⟩
  · cases r1
    obtain ⟨its, r, ht, hz⟩ := I5.tuple hx
    have hlen := r.length
    show wpAny (model X.prog X.w) X.A (subscriptTail e (.Slice none none (some (.UnaryOp .USub (.Constant (.int 1) k p1) p2)) p3) (.ref a) (.ref s4.heap.objs.size)) (EP X pins σ Q) X.xe { s4 with heap := s4.heap.push { cls := .type "slice", data := .fields #[vl, vu, vs] } }
    refine PyProof.Rows.tail_any (ops := [.ref a, .ref s4.heap.objs.size]) ht.typeIs PyProof.Rows.slot_tuple_getitem.lookup ?_ (by with_unfolding_all rfl)
    refine getItem_tuple_rev ht (Heap.IsSliceOf.new _ vl vu vs) pl pu ps ?_ (by rw [List.size_toArray]; omega)
    have hfr := I5.hok.fresh (Nat.le_refl _)
    refine ⟨.ref _, _, I5.laid (t' := s4.toks) (o := .tup xs.reverse) (fun b ob q => Heap.get?_push_of_some _ q) (Nat.le_refl _) ?_, rfl, q2.made so1 hfr (.tup (.inl (.inl upd_same)) (rs.reverse.mono (Ex.new (so1.ex.nn hfr))))⟩
    exact ⟨by rw [List.length_reverse]; exact hz, _, r.reverse, ⟨_, Heap.get?_push_size _ rfl, rfl, _, rfl⟩⟩
/-! ### (a, b, ..) = a list -/
def gUnlE (n : Nat) (k : List A → Ev Env) : A → Ev Env := fun a env S => match starA S a with
  | some ds => if ds.length = n then k (ds.map A.val) env S else .bad
  | none => .bad
theorem sg_unl {es : List Expr} {k : Nat} {n : Nat} {pos : Pos} {g : List A → Ev Env} (h : SGs X cl W es g) (hc : X.calm = true := by rfl) (hn : (assignEach es X.env).length = n := by rfl) (hst : (assignEach es X.env).findIdx? (·.1) = none := by rfl) : SG X cl W (.Tuple es k pos) (gUnlE n g) := by
  obtain ⟨t, p, r⟩ := h.ex
  refine ⟨fun v σ H Q => gUnl X.K n t v σ H Q ∨ gTup X.K n t v σ H Q, ⟨fun pins s σ H v u Q I rv hw => hw.elim (fun z => (pg_unl hc p hn hst).run pins s σ H v u Q I rv z) fun z => (pg_tup hc p hn hst).run pins s σ H v u Q I rv z⟩, fun σ Hv H S ad env v a Q re so ra q => ?_⟩
  unfold gUnlE at q
  split at q
  · rename_i ds ed
    split at q
    · rename_i hl
      obtain ⟨p, xs, rfl, hsq, rs⟩ := starA_at so ra ed
      rcases hsq with hsq | hsq
      · exact .inr ⟨p, xs, rfl, hsq, by rw [rs.length]; exact hl, r σ Hv H S ad env _ _ Q re so (RepAs.vals rs) q⟩
      · exact .inl ⟨p, xs, rfl, hsq, by rw [rs.length]; exact hl, r σ Hv H S ad env _ _ Q re so (RepAs.vals rs) q⟩
    · exact q.elim
  · exact q.elim
/-! ### str(x) -/
def hStrC (as : List A) (S : Store) : Out A := match as with
  | [.val (.str x)] => .ok (.val (.str x)) S
  | [.val d] => (match toPyF d with
    | some p => if showB p = true then .ok (.val (.str p.shown)) S else .bad
    | none => .bad)
  | _ => .bad
theorem b_str (gd : X.A.guards = some []) (hu : X.A.units + 80 < cLine) : CallV X cl W (.type "str") hStrC := fun pins s σ Hv H S ad xs us as Q I r so ra q => by
  unfold hStrC at q
  split at q
  · obtain ⟨v, rfl, r1⟩ := rep1 ra
    cases r1
    exact SkE.call_str_str pins s σ H _ us Q I r ⟨_, rfl, q.here so _ .str⟩
  · rename_i d hns
    obtain ⟨v, rfl, rd⟩ := rep1 ra
    split at q
    · rename_i p hp
      split at q
      · rename_i hs
        have qq := q.here so _ .str
        obtain ⟨u, rfl, rv⟩ := vals1 r
        obtain ⟨s1, hs2⟩ := Bool.and_eq_true_iff.mp hs
        obtain ⟨s2, s3⟩ := Bool.and_eq_true_iff.mp hs2
        have hdep := of_decide_eq_true s2
        have hlen := sz_of (of_decide_eq_true s3)
        have sm : ∃ o φ, H sysModules = some (.frz o (.ext φ)) := so.sm.elim fun o z => z.elim fun φ z => ⟨o, φ, so.ex _ _ z⟩
        obtain ⟨as, hr, hsm⟩ := rep_reads I sm (Rep.mono so.ex rd) p u hp rv
        have ref : ∀ a, u = .ref a → wpAny (model X.prog X.w) X.A (call (.type "str") [u]) (EP X pins σ Q) X.xe s := fun a e => by
          subst e
          exact str_of_reads hr s1 (fun _ => hsm) gd (by omega) (fun _ _ z => z) (fun h' t tk hk => ⟨.str p.shown, H, I.kept (t' := tk) hk, ⟨t, rfl⟩, qq⟩) hlen
        cases hr with
        | none => exact PySem.P.str_of_none ⟨.str _, H, I.tok _, ⟨_, rfl⟩, qq⟩
        | bool b => exact PySem.P.str_of_bool ⟨.str _, H, I.tok _, ⟨_, rfl⟩, qq⟩
        | int i t => exact PySem.P.str_of_int (of_decide_eq_true s1) ⟨.str _, H, I.tok _, ⟨_, rfl⟩, qq⟩
        | str x t =>
          exfalso
          cases rd <;> first | (cases rv; done) | exact hns _ rfl | (obtain ⟨_, z⟩ := rv; cases z; done)
        | list _ _ _ _ => exact ref _ rfl
        | tuple _ _ _ _ => exact ref _ rfl
        | dict _ _ _ _ _ => exact ref _ rfl
      · exact q.elim
    · exact q.elim
  · exact q.elim
end
end R


namespace R
open PySem L2
/-! list.index(x), texts -/
def idxS (z : Str) : List Str → Option Nat
  | [] => none
  | x :: r => if x = z then some 0 else (idxS z r).map (· + 1)
theorem idxS_ok {z : Str} : ∀ {xs : List Str} {j : Nat}, idxS z xs = some j → xs[j]? = some z ∧ ∀ m, m < j → ∀ y, xs[m]? = some y → y ≠ z
  | [], _, h => by cases h
  | x :: r, j, h => by
    unfold idxS at h
    split at h
    · rename_i e
      cases h
      exact ⟨by rw [e]; rfl, fun m hm => absurd hm (Nat.not_lt_zero _)⟩
    · rename_i ne
      cases q : idxS z r with
      | none => rw [q] at h; cases h
      | some i =>
        rw [q] at h
        cases h
        obtain ⟨h1, h2⟩ := idxS_ok q
        refine ⟨h1, fun m hm y hy => ?_⟩
        cases m with
        | zero =>
          cases hy
          exact ne
        | succ m => exact h2 m (Nat.lt_of_succ_lt_succ hm) y hy
def kIndex (o : A) (as : List A) (S : Store) : Out A := match as with
  | [.val (.str z)] => (match lst? S o with
    | some ds => (match strs? ds with
      | some xs => (match idxS z xs with
        | some j => .ok (.val (.int (j : Nat))) S
        | none => .bad)
      | none => .bad)
    | none => .bad)
  | _ => .bad
section
variable {X : Cx} {cl : CL} {W : WX}
theorem m_index : ∃ r, L2.MtR X "list.index" r ∧ RdM X.K cl W r kIndex := ⟨_, mt_index, fun σ Hv H S ad x xs a as Q so ra rs q => by
  unfold kIndex at q
  split at q
  · rename_i z
    split at q
    · rename_i ds ed
      split at q
      · rename_i ys ey
        split at q
        · rename_i j ej
          obtain ⟨v, rfl, rv⟩ := rep1 rs
          cases rv
          obtain ⟨p, vs, rfl, hH, rr⟩ := lst_at so ra ed
          rw [strs_eq ey] at rr
          have e := rr.strs
          subst e
          obtain ⟨h1, h2⟩ := idxS_ok ej
          refine ⟨p, ys.map V.str, .str z, j, .str z, rfl, rfl, .inl (.inl hH), rfl, ?_, ?_, ?_, fun m z' hm hz => ?_, q.here so _ .int⟩
          · rw [List.all_map]
            exact List.all_eq_true.mpr fun _ _ => rfl
          · rw [List.getElem?_map, h1]
            rfl
          · show (z == z) = true
            exact beq_self_eq_true z
          · rw [List.getElem?_map] at hz
            cases qy : ys[m]? with
            | none => rw [qy] at hz; cases hz
            | some y =>
              rw [qy] at hz
              cases hz
              show (y == z) = false
              exact beq_eq_false_iff_ne.mpr (h2 m hm y qy)
        · exact q.elim
      · exact q.elim
    · exact q.elim
  · exact q.elim⟩
theorem tv_str {k : Nat} {tb : Tb} {t : CtT} (TB : TbOk X.prog X.w X.K X.mg X.base cl t k "__str__" tb) (B : Bx X W) (hr : Room (k + 2) X.A) : CallV X cl W (.type "str") (hTbC tb hOwnStr hStrC) :=
  callV_tb (b_str B.gd (by have := hr.un; omega)) fun c g h => v_str (TB.at_ c g h).1 B hr
/-- a list's or tuple's item, or an own one -/
theorem tv_ix {k : Nat} {tb : Tb} {t : CtT} {a b : Expr} (hfn : ∀ c g, tb.lookup c = some g → ∀ f, Meth X.K (cl c) "__getitem__" f → PySem.W.fnIn X.K f = true) (TB : TbOk X.prog X.w X.K X.mg X.base cl t k "__getitem__" tb) (B : Bx X W) (hr : Room (k + 1) X.A) (hs : PlainIx b)
    (hsl : ∀ o i, subscripted b true o i = runValue (.builtin "lifetime.subscript" ⟨[o, i], []⟩)) : OpV X cl W (PyProof.Rows.subscriptTail a b) (hTbL tb hOwnIx hIx) :=
  opV_tbL (fun pins s σ Hv H S ad x y v u p q Q I rx ry so ra rb z => ix_seq a b pins s σ H x y v u Q I rx ry (rd_ix (W := W) σ Hv H S ad x y p q Q so ra rb z) (hs _ _)) fun c g h => v_ix (hfn c g h) (TB.at_ c g h).1 B hr hsl
end
end R


namespace R
open PySem L2
/-! ### helpers of printed texts -/
theorem TbOk.mono {P : Program} {w : World} {K : PySem.W.Frag} {mg : Str → Option Value} {base : Heap} {cl : CL} {t : CtT} {j k : Nat} {m : Str} {tb : Tb} (h : TbOk P w K mg base cl t j m tb) (hj : j ≤ k) : TbOk P w K mg base cl t k m tb := ⟨fun c g e => ⟨(h.at_ c g e).1.mono hj, (h.at_ c g e).2⟩⟩
theorem TbIOk.mono {P : Program} {w : World} {K : PySem.W.Frag} {mg : Str → Option Value} {base : Heap} {cl : CL} {j k : Nat} {tb : TbI} (h : TbIOk P w K mg base cl j tb) (hj : j ≤ k) : TbIOk P w K mg base cl k tb := ⟨fun c g e => let ⟨f, fi, a, b, d⟩ := (h.at_ c g e).ex; ⟨f, fi, a, b.mono hj, d⟩⟩
theorem fn_of_ma {K : PySem.W.Frag} {C f : Addr} {m : Str} (h : PySem.W.fnIn K (He.ma K C m) = true) (hm : Meth K C m f) : PySem.W.fnIn K f = true := by
  unfold He.ma at h
  rw [hm.at_] at h
  exact h
def methB (K : PySem.W.Frag) (C : Addr) (m : Str) : Bool := decide (PySem.W.findIn K (.ref C) m = some (some (.ref (He.ma K C m)))) && (PySem.W.isFn K (.ref (He.ma K C m)) && (PySem.W.keepIn K (.ref (He.ma K C m)) && PySem.W.fnIn K (He.ma K C m)))
theorem methB_ok {K : PySem.W.Frag} {C : Addr} {m : Str} (h : methB K C m = true) : Meth K C m (He.ma K C m) ∧ PySem.W.fnIn K (He.ma K C m) = true := by
  obtain ⟨h1, h⟩ := Bool.and_eq_true_iff.mp h
  obtain ⟨h2, h⟩ := Bool.and_eq_true_iff.mp h
  obtain ⟨h3, h4⟩ := Bool.and_eq_true_iff.mp h
  exact ⟨⟨of_decide_eq_true h1, h2, h3⟩, h4⟩
def mkrB (K : PySem.W.Frag) (C : Addr) : Bool := PySem.W.makesIn K C && (decide (PySem.W.findIn K (.ref C) "__init__" = some (some (.ref (He.ma K C "__init__")))) && (PySem.W.isFn K (.ref (He.ma K C "__init__")) && PySem.W.keepIn K (.ref C)))
theorem mkrB_ok {K : PySem.W.Frag} {C : Addr} (h : mkrB K C = true) : Mk K C (He.ma K C "__init__") := by
  obtain ⟨h1, h⟩ := Bool.and_eq_true_iff.mp h
  obtain ⟨h2, h⟩ := Bool.and_eq_true_iff.mp h
  obtain ⟨h3, h4⟩ := Bool.and_eq_true_iff.mp h
  exact ⟨h1, of_decide_eq_true h2, h3, h4⟩
section
variable {P : Program} {w : World} {K : PySem.W.Frag} {mg : Str → Option Value} {base : Heap} {cl : CL} {k c : Nat} {m : Str} {g : List A → Store → Out A} {t : CtT}
/-- a method -/
theorem mt_mk (T : CtOk t K cl) (hc : c < t.n ∧ t.exc c = false) (h : methB K (cl c) m = true) (F : FnV P w K mg base cl k (He.ma K (cl c) m) g) : MtR P w K mg base cl k c m g := ⟨_, (T.obk c hc.1 hc.2).cl, (methB_ok h).1, F.fn⟩
theorem ob_mk (h : mkrB K (cl c) = true) (F : FnV P w K mg base cl k (He.ma K (cl c) "__init__") g) : ObR P w K mg base cl k c g := ⟨_, mkrB_ok h, F.fn⟩
theorem cm_mk (h : cmB K (cl c) m = true) (F : FnV P w K mg base cl k (He5.wf K (cl c) "classmethod" m) g) : CmR P w K mg base cl k c m g := ⟨_, _, (cmB_ok h).1, (cmB_ok h).2, F.fn⟩
theorem cmk_mk {nms : List Str} (h : cmB K (cl c) m = true) (F : FnKP P w K mg base k (He5.wf K (cl c) "classmethod" m) 1 nms (SpV K cl g)) : CmKR P w K mg base cl k c m nms g := ⟨_, _, (cmB_ok h).1, (cmB_ok h).2, F⟩
/-- o.f, told of an own __iter__ -/
def gAttr (t : CtT) (f : Str) (a : A) (S : Store) : Option (List D) := match hAttr t f a S with
  | .ok (.val (.tup ds)) _ => some ds
  | _ => none
theorem hAttr_same {f : Str} {a : A} {S : Store} {r : A} {S' : Store} (h : hAttr t f a S = .ok r S') : S' = S := by
  unfold hAttr at h
  repeat (first | (split at h) | (cases h; rfl) | cases h)
theorem it_mk {f : Str} {fi : A → Store → Out A} (h : methB K (cl c) "__iter__" = true) (F : FnI P w K mg base k (He.ma K (cl c) "__iter__") (SpI K cl fi)) (hfi : ∀ a S, fi a S = hAttr t f a S) : ItR P w K mg base cl k c (gAttr t f) := ⟨_, fi, (methB_ok h).1, F, fun a S ds e => by
  rw [hfi]
  unfold gAttr at e
  split at e
  · rename_i ds' S' q
    cases e
    rw [q, hAttr_same q]
  · cases e⟩
end
theorem CtOk.lam {t : CtT} {K : PySem.W.Frag} {cl : CL} (h : CtOk t K cl) (kn : Hp) (ka fvs : List Addr) : CtOk t K (cl.lam kn ka fvs) := ⟨h.own, h.bown, h.ob, h.exk, h.obk, h.noat, h.exm⟩
/-! ### a def that makes lambdas: its code object is known -/
section
variable {P : Program} {w : World} {K : PySem.W.Frag} {mg : Str → Option Value} {base : Heap} {x qual : Str} {params : Arguments} {body : List Stmt} {scope : Scope} {dvs : List V} {kws : List (Str × V)} {f c : Addr} {fd : FuncData} {cl : CL}
theorem fnG_ofC {N ps : List Str} {k : Nat} {sp : Sp} (F : FunD K x qual params body scope dvs kws f fd) (hcc : fd.code = .ref c) (S : FnScope N ps scope) (len : ∀ vs H Q E, sp vs H Q E → vs.length = ps.length)
    (hbody : ∀ (A : Around) (outer : List PySem.Env) (s : Shared) (H : Hp) (vs : List V) (Q : VK) (E : XK), A.guards = some [] → Room k (A.deeper (PyProof.Rows.envOfC qual scope s.heap.objs.size f (.ref c))) → sp vs H Q E →
      ∃ t, PSs (cxOf (L2.CX P w) P w K mg base N qual scope f (.ref c) A outer s H E) body t ∧ t { nx := fun _ H' => Q .non H', rt := Q } (L2.start N vs) H) : FnG P w K mg base (k + 1) f fd ps sp := by
  obtain ⟨oc, od, dV, kV, doc, pm, an, cdv, ct, osl, rfl, lk, hcd, _, _⟩ := F.ex
  obtain rfl : cdv = .ref c := hcc
  refine ⟨len, fun A outer s H args us vs Q E hg hr e0 hb r hsp => ?_⟩
  have hl := len _ _ _ _ hsp
  have KX : K.In s.heap := e0.mod.kin.keeps fun b o e => (e0.bs b o e).1
  have lim : s.heap.NoLimit := e0.mod.nolimit.keeps fun b o e => (e0.bs b o e).1
  have hkind : ∀ y ∈ ps.zip us, scope.names.lookup y.1 = some .local ∨ (scope.names.lookup y.1 = some .cell ∧ ((cellsFrom (s.heap.objs.size + 1) scope.names []).lookup y.1).isSome = true) := fun y hy =>
    (S.par y.1 (List.of_mem_zip (show (y.1, y.2) ∈ ps.zip us from hy)).1).elim .inl fun q => .inr ⟨q, PySem.W.cellsFrom_some _ _ _ (.inl q)⟩
  refine codeAny_call_function hr.depth (KX _ _ lk) rfl S.co S.gen rfl (PySem.W.codeRec_of KX hcd) (hb _ _ _ _ (wpAny_newFunctionEnv_cells S.kind hkind fun env he s1 z => ?_))
  subst he
  refine ⟨lim.keeps z.toInCall.keep, codeAny_func ?_⟩
  obtain ⟨t, ht, hq⟩ := hbody A outer s H vs Q E hg (hr.deeper _) hsp
  refine wpAny_mono (ht.run [] s1 _ H _ (inv_start S hr.hd e0 hl r z) hq) (fun fl s' hs => ?_) fun e s' hs => hs
  cases fl with
  | ret u =>
    obtain ⟨v, σ', H', J, rv, q⟩ := hs
    exact ⟨v, H', J.os, J.bare, J.base, J.hok, rv, q⟩
  | next =>
    obtain ⟨σ', H', J, q⟩ := hs
    exact ⟨.non, H', J.os, J.bare, J.base, J.hok, rfl, q⟩
  | brk => exact hs.elim fun _ ⟨_, _, q⟩ => q.elim
  | cont => exact hs.elim fun _ ⟨_, _, q⟩ => q.elim
theorem fnF_mkC {d : He.Defn} {N ps : List Str} {k : Nat} {fb : Sv} (F : ∃ fd, FunD K x qual params body scope [] [] (He.fAd K d) fd) (S : FnScope N ps scope)
    (hb : ∀ (A : Around) (outer : List PySem.Env) (s : Shared) (H : Hp) (E : XK), Room k (A.deeper (PyProof.Rows.envOfC qual scope s.heap.objs.size (He.fAd K d) (.ref (He.cT K d).1))) → Bx (cxOf (L2.CX P w) P w K mg base N qual scope (He.fAd K d) (.ref (He.cT K d).1) A outer s H E) (fun c d _ H' => E c d H') →
      SSs (cxOf (L2.CX P w) P w K mg base N qual scope (He.fAd K d) (.ref (He.cT K d).1) A outer s H E) cl (fun c d _ H' => E c d H') body fb) : FnF P w K mg base cl (k + 1) x qual params body scope (He.fAd K d) ps (defF N.length fb) := by
  obtain ⟨fd, F⟩ := F
  refine ⟨fd, F, ?_⟩
  have hcc : fd.code = .ref (He.cT K d).1 := by
    obtain ⟨oc, od, dV, kV, doc, pm, an, cdv, ct, osl, rfl, lk, hcd, _, _⟩ := F.ex
    obtain ⟨c, rfl⟩ := He.codeIn_ref hcd
    show Value.ref c = Value.ref (He.codeOf K d)
    rw [He.codeOf_eq lk rfl]
  refine fnG_ofC F hcc S (fun vs H Q E h => h.1) fun A outer s H vs Q E hgd hr h => ?_
  obtain ⟨hl, Hv, St, ad, as, rs, so, q⟩ := h
  obtain ⟨t, p, r⟩ := (hb A outer s H E hr ⟨takes_of rfl rfl rfl rfl, passes_of rfl, hgd⟩).ex
  exact ⟨t, p, r _ Hv H St ad (startE N.length as) _ (start_rep rs) so (def_pst so q)⟩
end
/-- lambdas' tables are told apart -/
def tabD (tfq : List (He.Defn × Str)) (K : PySem.W.Frag) : Bool := tfq.all fun p => tfq.all fun q => decide ((He.cT K p.1).2 = (He.cT K q.1).2 → p.2 = q.2)
section
variable {X : Cx} {cl : CL} {W : WX} {x a : Str} {g : Addr} {k : Nat} {pg : Arguments} {bg : List Stmt} {sg : Scope} {Ng : List Str} {params : Arguments} {body : Expr} {scope : Scope} {p lpos pos : Pos} {fb : (Store → Out A) → Sv} {fE : Ev A} {tfq : List (He.Defn × Str)}
theorem se_lamR (Fg : ∃ fd, FunD X.K x x pg bg sg [] [] g fd) (Sg : FnScope Ng [a] sg) (hG : CallsIt X.prog X.w X.K X.mg X.base cl (k + 1) x a g sg Ng bg fb) (B : Bx X W) (hr : Room (k + 2) X.A) (hm : X.mg x = some (.ref g)) (i : Nat) {d : He.Defn} {q : Str} (hd0 : tfq[i]? = some (d, q)) (TB : ∀ p ∈ tfq, LamX.TabB X.base X.mg (He.cT X.K p.1).1 (He.cT X.K p.1).2) (hD : tabD tfq X.K = true)
    (ht : cl.tabs = tfq.map fun p => ((He.cT X.K p.1).2, p.2)) (hcode : X.env.code = .ref (He.cT X.K d).1)
    (hbody : ∀ (A : Around) (outer : List PySem.Env) (s : Shared) (H : Hp) (E : XK) (f c' : Addr), Room k (A.deeper (LamX.lamEnv X scope s.heap.objs.size f c')) → Bx (LamX.lamCx X A outer s H E scope f c') (fun c d _ H' => E c d H') →
      SE (LamX.lamCx X A outer s H E scope f c') cl (fun c d _ H' => E c d H') body fE)
    (hq : q = X.env.qual ++ "<lambda>") (L : LamX.LamS X.env.scope scope) (hdef : defaultsOf params X.env = ([], []))
    (hbind : ∀ (q : Str) (cl : List (Str × Addr)) (pm cv ctv : Value), bindArgs (PySem.W.kla_fn "<lambda>" q params body scope cl pm cv ctv) ⟨[], []⟩ = pure [])
    (hbn : ∀ (kV doc pm : Value) (an : Option Addr) (cdv ct : Value) (us : List Value), us.length = [a].length → bindArgs (PySem.W.fnOf x x pg bg sg .none kV doc pm an cdv ct) ⟨us, []⟩ = pure ([a].zip us))
    (hNg : Ng[0]? = some a) (hva : Vis sg a) (hg : Gl X x := by rfl)
    (hdb : (x == ("__debug__" : Str)) = false := by decide) (hd : (a == ("__debug__" : Str)) = false := by decide) (hcd : (a == ("__classdict__" : Str)) = false := by decide) :
    SE X cl W (.Call (.Name x p) [.Lambda params body scope lpos] [] pos) (eLam Ng.length fb fE) := by
  obtain ⟨fd, F⟩ := Fg
  subst hq
  have hmem := List.mem_of_getElem? hd0
  refine se_lam F (F.bindsN hbn) Sg hNg hva B hm (TB _ hmem) hcode ?_ ?_ hr L hdef hbind hG hbody hg hdb hd hcd
  · rw [ht]
    exact List.mem_map.mpr ⟨_, hmem, rfl⟩
  · rw [ht]
    intro z hz ez
    obtain ⟨y, hy, rfl⟩ := List.mem_map.mp hz
    have h1 := List.all_eq_true.mp (List.all_eq_true.mp hD y hy) _ hmem
    exact of_decide_eq_true h1 ez
end
end R


namespace R
open PySem L2
theorem lookup_mem {tb : Tb} {c : Nat} {g : List A → Store → Out A} : tb.lookup c = some g → c ∈ tb.map (·.1) := by
  induction tb with
  | nil => intro h; cases h
  | cons p r ih =>
    intro h
    rw [List.lookup_cons] at h
    split at h
    · rename_i e
      rw [beq_iff_eq.mp e]
      exact List.mem_cons_self ..
    · exact List.mem_cons_of_mem _ (ih h)
def neB (K : PySem.W.Frag) (cl : CL) (cs : List Nat) : Bool := cs.all fun c => decide (PySem.W.findIn K (.ref (cl c)) "__ne__" = some (some (.builtin "object.__ne__")))
def lackB (K : PySem.W.Frag) (cl : CL) (m : Str) (cs : List Nat) : Bool := cs.all fun c => decide (PySem.W.findIn K (.ref (cl c)) m = some none)
def fnB (K : PySem.W.Frag) (cl : CL) (m : Str) (cs : List Nat) : Bool := cs.all fun c => PySem.W.fnIn K (He.ma K (cl c) m)
section
variable {K : PySem.W.Frag} {cl : CL} {tb tb' : Tb} {cs : List Nat} {m : Str}
theorem ne_of (h : neB K cl cs = true) (e : tb.map (·.1) = cs) : ∀ c g, tb.lookup c = some g → PySem.W.findIn K (.ref (cl c)) "__ne__" = some (some (.builtin "object.__ne__")) := fun c g q => of_decide_eq_true (List.all_eq_true.mp h c (e ▸ lookup_mem q))
theorem lack_of (h : lackB K cl m cs = true) (e : ∀ c, c ∈ tb.map (·.1) → tb'.lookup c = none → c ∈ cs) : ∀ c g, tb.lookup c = some g → tb'.lookup c = none → PySem.W.findIn K (.ref (cl c)) m = some none := fun c g q z => of_decide_eq_true (List.all_eq_true.mp h c (e c (lookup_mem q) z))
theorem fn_of (h : fnB K cl m cs = true) (e : tb.map (·.1) = cs) : ∀ c g, tb.lookup c = some g → ∀ f, Meth K (cl c) m f → PySem.W.fnIn K f = true := fun c g q f hm => fn_of_ma (List.all_eq_true.mp h c (e ▸ lookup_mem q)) hm
end
theorem CallsIt.mono {P : Program} {w : World} {K : PySem.W.Frag} {mg : Str → Option Value} {base : Heap} {cl : CL} {j k : Nat} {x a : Str} {g : Addr} {sg : Scope} {Ng : List Str} {bg : List Stmt} {fb : (Store → Out A) → Sv} (h : CallsIt P w K mg base cl j x a g sg Ng bg fb) (hj : j ≤ k) : CallsIt P w K mg base cl k x a g sg Ng bg fb :=
  fun kn ka fvs th cdv A outer s H E hr => h kn ka fvs th cdv A outer s H E (hr.mono hj)
end R
namespace R
open PySem L2
/-! ### {} -/
def eDnewN : Ev A := fun _ S => .ok (.loc S.length) (S ++ [some (.dic [] [])])
def eDnewT : Ev A := fun _ S => .ok (.loc S.length) (S ++ [some (.dit [] [])])
section
variable {X : Cx} {cl : CL} {W : WX} {pos : Pos}
theorem se_dnewN : SE X cl W (.Dict [] [] pos) eDnewN := ⟨_, pe_dnewK, fun σ Hv H S ad env Q re so q p hp => q Hv (ad ++ [p]) _ (Ex.refl _) ⟨[p], rfl⟩ (so.alloc (c := .dic [] []) hp ⟨[], upd_same, rfl, .nil⟩) (.ref p) ⟨p, rfl, by rw [← so.len]; simp⟩⟩
theorem se_dnewT : SE X cl W (.Dict [] [] pos) eDnewT := ⟨_, pe_dnewT, fun σ Hv H S ad env Q re so q p hp => q Hv (ad ++ [p]) _ (Ex.refl _) ⟨[p], rfl⟩ (so.alloc (c := .dit [] []) hp ⟨[], upd_same, rfl, .nil⟩) (.ref p) ⟨p, rfl, by rw [← so.len]; simp⟩⟩
end
end R
namespace R
open PySem L2
/-! ### slices of lists, tuples, texts -/
def hSlA (a : A) (lo hi : Option Int) (S : Store) : Out A := match a with
  | .val (.tup ds) => .ok (.val (.tup (cutD ds lo hi))) S
  | .val (.str x) => if x.length ≤ 100000 then .ok (.val (.str (cutS x lo hi))) S else .bad
  | a => hSl a lo hi S
def eSlA (f : Ev A) (lo hi : EvO) : Ev A := fun env S => (f env S).bind fun a S1 => (lo env S1).bind fun l S2 => (hi env S2).bind fun h S3 => hSlA a l h S3
theorem cutD_whole {ds : List D} {lo hi : Option Int} (h : HT.sIx ds.length 0 lo = 0 ∧ HT.sIx ds.length ds.length hi = ds.length) : cutD ds lo hi = ds := by
  unfold cutD
  rw [h.1, h.2]
  simp
section
variable {X : Cx} {cl : CL} {W : WX} {a : Expr} {p2 pos : Pos}
theorem se_slA {lo hi : Option Expr} {f : Ev A} {g h : EvO} (ha : SE X cl W a f) (hl : SO X cl W lo g) (hh : SO X cl W hi h) : SE X cl W (.Subscript a (.Slice lo hi none p2) pos) (eSlA f g h) := by
  obtain ⟨_, pa, ra⟩ := ha.ex
  obtain ⟨_, pl, rl⟩ := hl.ex
  obtain ⟨_, ph, rh⟩ := hh.ex
  refine ⟨_, pe_slice (sl_list.or (sl_tupA.or sl_str)) pa pl ph, fun σ Hv H S ad env Q re so q => ?_⟩
  refine ra σ Hv H S ad env _ re so (q.bind.mono fun z S1 Hv1 ad1 H1 e1 p1 s1 q1 v r1 => ?_)
  refine rl σ Hv1 H1 S1 ad1 env _ (re.mono e1 p1) s1 (q1.bind.mono fun l S2 Hv2 ad2 H2 e2 p2 s2 q2 => ?_)
  refine rh σ Hv2 H2 S2 ad2 env _ ((re.mono e1 p1).mono e2 p2) s2 (q2.bind.mono fun u S3 Hv3 ad3 H3 e3 p3 s3 q3 => ?_)
  have r3 := (r1.mono e2 p2).mono e3 p3
  unfold hSlA at q3
  split at q3
  · rename_i ds
    cases r3 with
    | tup hq rs =>
      refine .inr (.inl ⟨_, _, rfl, ex_t s3.ex hq, fun hw => ?_, fun hw p hp => ?_⟩)
      · rw [rs.length] at hw
        rw [cutD_whole hw] at q3
        exact q3.here s3 _ (show Rep _ _ _ _ _ from .tup hq rs)
      · exact q3.made s3 hp (.tup (.inl (.inl upd_same)) ((rs.cut l u).mono (Ex.new (s3.ex.nn hp))))
  · rename_i x
    split at q3
    · rename_i hz
      cases r3
      exact .inr (.inr ⟨x, rfl, sz_of hz, q3.here s3 _ .str⟩)
    · exact q3.elim
  · unfold hSl at q3
    split at q3
    · cases r3 with
      | scr hq => exact .inl ⟨_, _, rfl, ex_l s3.ex hq, fun p hp => q3.made s3 hp (.lst upd_same (((reps_ints _).cut l u).mono (Ex.new (s3.ex.nn hp))))⟩
    · split at q3
      · rename_i ds e
        obtain ⟨p, xs, rfl, h1, rs⟩ := lst_at s3 r3 e
        exact .inl ⟨p, xs, rfl, .inl (.inl h1), fun p hp => q3.made s3 hp (.lst upd_same ((rs.cut l u).mono (Ex.new (s3.ex.nn hp))))⟩
      · exact q3.elim
end
end R


namespace R
open PySem L2
/-! ### a text beside an own object: != by the object's own == -/
def hOwnNeS (c : Nat) (g : List A → Store → Out A) (a b : A) (S : Store) : Out A := match a with
  | .val (.str _) => if isC S c b = true then (g [b, a] S).bind kNeg else .bad
  | _ => .bad
theorem str_ne_declines_inst (b : Str) (u : Tok) (l : Addr) (o : Obj) :
    Meets (Builtin.«str.__ne__» ⟨[.str b u, .ref l], []⟩) (fun _ R s => (s.heap.get? l = some o ∧ o.data = .plain) ∧ R (.ok (.ret .notImplemented)) s) :=
  .of_wp fun prog w A R s h => by
    obtain ⟨hp, g, d, tk, os⟩ := s
    obtain ⟨⟨hl, hd⟩, h⟩ := h
    obtain ⟨c, dd, da, sl⟩ := o
    cases hd
    wp_walk using wpAny_loadPart' hl, wpAny_load hl
    exact ⟨_, rfl, h⟩
section
variable {X : Cx} {cl : CL} {W : WX} {k c : Nat} {g : List A → Store → Out A} {t : CtT} {tb : Tb}
theorem v_neS (O : OwK t X.K cl c) (hne : PySem.W.findIn X.K (.ref (cl c)) "__ne__" = some (some (.builtin "object.__ne__"))) (hss : PySem.W.subIn X.K (.ref (cl c)) (.type "str") = some false) (F : MtR X.prog X.w X.K X.mg X.base cl k c "__eq__" g) (B : Bx X W) (hr : Room (k + 1) X.A) : OpV X cl W (compareOp .NotEq) (hOwnNeS c g) := fun pins s σ Hv H S ad x y v u a b Q I rx ry so ra rb q => by
  obtain ⟨f, _, hm, F⟩ := F.ex
  unfold hOwnNeS at q
  split at q
  · rename_i d
    split at q
    · rename_i hc
      obtain ⟨o, dx, fs, rfl, ho⟩ := isC_at so rb hc
      obtain rfl : u = Value.ref o := ry
      obtain ⟨ox, od, J, hpl⟩ := StX.insC_at I (.inr ⟨dx, fs, ho⟩ : StX.InsC X H o (cl c))
      have run := run_fn1 (us := [.ref o, v]) (vs := [.ref o, x]) (Q := fun z H' => ∃ k : Bool, z = .bl k ∧ Q (.bl (!k)) H') F B hr I (.cons rfl (.cons rx .nil)) (spV_of (σ := σ) so (.cons rb (.cons ra .nil)) (Pst.mono (Pst.bind q) fun r S1 Hv1 ad1 H1 e1 p1 s1 q1 v1 r1 => by
        unfold kNeg at q1
        split at q1
        · rename_i k
          cases r1
          exact ⟨k, rfl, q1.here s1 _ .bl⟩
        · exact q1.elim))
      cases ra
      obtain ⟨tk, rfl⟩ := rx
      have two : wpAny (model X.prog X.w) X.A (tryCompare (.str d tk) "__ne__" (.ref o)) (fun r s' => r = none ∧ s' = s) X.xe s :=
        wpAny_tryCompare_declines (typeIs_str s d tk) PySem.F.slot_str_ne (call_meets PySem.F.slot_str_ne (typeIs_str s d tk) PySem.F.entry_str_ne (PySem.F.args_str_ne_2 _ _) (str_ne_declines_inst d tk o ox) ⟨⟨J.at_, hpl⟩, rfl, rfl, rfl⟩)
      have one : wpAny (model X.prog X.w) X.A (tryCompare (.ref o) "__ne__" (.str d tk)) (fun r s' => ∃ z, r = some z ∧ EP X pins σ Q z s') X.xe s := by
        unfold tryCompare
        refine wpAny_bind (ifBound_blt I.kIn J hne PySem.F.slot_tuple_iterator_ne.bind (wpAny_call (codeAny_call_builtin PySem.F.slot_tuple_iterator_ne.plain PySem.F.cmpEntry_ne (PySem.W.check_slot (i := "object.__ne__") (owner := "object") (n := "__ne__") (by decide +kernel) (by decide +kernel) (J.type.andThen (PySem.W.looks_mroIn I.kIn O.om)) (PySem.F.cmpArgs_ne _ _) ?_))))
        unfold Builtin.«object.__ne__»
        refine wpAny_bind (m := slotArgs "__ne__" 1 _) (wpAny_pure ?_)
        refine wpAny_bind (m := cRoomFor _ _) (wpAny_cRoomFor (by have := hr.un; show X.A.units + 1 < _; omega) ?_)
        refine wpAny_bind (m := callSpecialIfBound? (.ref o) (Str.ofString "__eq__") _) (PySem.W.ifBound_K I.kIn J hm.at_ hm.fn (wpAny_mono run (fun z s' hz => ?_) fun _ _ e => e))
        obtain ⟨w', H', I', rv, kk, rfl, q'⟩ := hz
        cases rv
        refine wpAny_bind (m := truthy (.bool kk)) (wpAny_truthy_bool ?_)
        refine wpAny_pure ?_
        exact wpAny_pure ⟨_, rfl, .bl (!kk), H', I', rfl, q'⟩
      show wpAny _ _ (richCompare .NotEq (.str d tk) (.ref o)) _ _ _
      unfold richCompare
      simp only [(typeIs_str s d tk).oneThing_none]
      refine wpAny_holding (wpAny_bind (wpAny_cRoomFor (by have := hr.un; omega) ?_))
      refine wpAny_bind (wpAny_typeOf (typeIs_str s d tk) (wpAny_bind (J.type.here ?_)))
      split
      · refine wpAny_bind ((PySem.W.looks_subIn I.kIn hss).here ?_)
        simp only [Bool.false_eq_true, if_false, Bool.not_false, if_true]
        refine wpAny_bind (m := tryCompare (.str d tk) _ (.ref o)) (wpAny_mono two (fun r s1 z => ?_) fun _ _ e => e)
        obtain ⟨rfl, rfl⟩ := z
        refine wpAny_bind (m := tryCompare (.ref o) _ (.str d tk)) (wpAny_mono one (fun r s' z => ?_) fun _ _ e => e)
        obtain ⟨z, rfl, hq⟩ := z
        exact wpAny_pure hq
      · refine wpAny_bind (wpAny_pure ?_)
        simp only [Bool.false_eq_true, if_false, Bool.not_false, if_true]
        refine wpAny_bind (m := tryCompare (.str d tk) _ (.ref o)) (wpAny_mono two (fun r s1 z => ?_) fun _ _ e => e)
        obtain ⟨rfl, rfl⟩ := z
        refine wpAny_bind (m := tryCompare (.ref o) _ (.str d tk)) (wpAny_mono one (fun r s' z => ?_) fun _ _ e => e)
        obtain ⟨z, rfl, hq⟩ := z
        exact wpAny_pure hq
    · exact q.elim
  · exact q.elim
def ssB (K : PySem.W.Frag) (cl : CL) (cs : List Nat) : Bool := cs.all fun c => decide (PySem.W.subIn K (.ref (cl c)) (.type "str") = some false)
theorem ss_of {K : PySem.W.Frag} {cl : CL} {cs : List Nat} (h : ssB K cl cs = true) (e : tb.map (·.1) = cs) : ∀ c g, tb.lookup c = some g → PySem.W.subIn K (.ref (cl c)) (.type "str") = some false := fun c g q => of_decide_eq_true (List.all_eq_true.mp h c (e ▸ lookup_mem q))
theorem tv_ne2 (hne : ∀ c g, tb.lookup c = some g → PySem.W.findIn X.K (.ref (cl c)) "__ne__" = some (some (.builtin "object.__ne__"))) (hss : ∀ c g, tb.lookup c = some g → PySem.W.subIn X.K (.ref (cl c)) (.type "str") = some false) (T : CtOk t X.K cl) (TB : TbOk X.prog X.w X.K X.mg X.base cl t k "__eq__" tb) (B : Bx X W) (hr : Room (k + 1) X.A) : OpV X cl W (compareOp .NotEq) (hTbL tb (hOwnNe t) (hTbR tb hOwnNeS hNe)) :=
  opV_tbL (opV_tbR (opV_of (o_ne hr.units)) fun c g h => v_neS (TB.at_ c g h).2 (hne c g h) (hss c g h) (TB.at_ c g h).1 B hr) fun c g h => v_ne T (TB.at_ c g h).2 (hne c g h) (TB.at_ c g h).1 B hr
end
end R


namespace R
open PySem L2
/-! ### rows of texts -/
abbrev ts (w : List Str) : List D := w.map D.str
abbrev tl (w : List Str) : A := .val (.lst (ts w))
abbrev tt (w : List Str) : A := .val (.tup (ts w))
theorem toPys_strs : ∀ w : List Str, toPys (ts w) = some (w.map PyData.str)
  | [] => by simp only [ts, List.map_nil, toPys]
  | c :: cs => by
    have h := toPys_strs cs
    simp only [ts] at h
    simp only [ts, List.map_cons, toPys, toPy, h]
/-- texts of a fit length -/
abbrev TxOk (w : List Str) : Prop := ∀ x ∈ w, PyData.strOk x = true
theorem canLay_strs : ∀ w : List Str, TxOk w → PyData.canLayAll0 (w.map PyData.str) = true
  | [], _ => by simp only [List.map_nil, PyData.canLayAll0]
  | c :: cs, h => by simp only [List.map_cons, PyData.canLayAll0, PyData.canLay0, canLay_strs cs fun x hx => h x (List.mem_cons_of_mem _ hx), h c (List.mem_cons_self ..), Bool.and_self]
theorem depth_strs : ∀ w : List Str, PyData.depthAll (w.map PyData.str) ≤ 1
  | [] => by simp [PyData.depthAll]
  | c :: cs => by
    have h := depth_strs cs
    simp only [List.map_cons, PyData.depthAll, PyData.depth]
    omega
theorem shaped_strs (w : List Str) (hw : TxOk w) : SeqAt.shaped (.list (w.map PyData.str)) = true := by
  have h := depth_strs w
  unfold SeqAt.shaped
  rw [Bool.and_eq_true]
  refine ⟨by simp only [PyData.canLay0]; exact canLay_strs w hw, decide_eq_true ?_⟩
  simp only [PyData.depth]
  omega
theorem shaped_strsT (w : List Str) (hw : TxOk w) : SeqAt.shaped (.tuple (w.map PyData.str)) = true := by
  have h := depth_strs w
  unfold SeqAt.shaped
  rw [Bool.and_eq_true]
  refine ⟨by simp only [PyData.canLay0]; exact canLay_strs w hw, decide_eq_true ?_⟩
  simp only [PyData.depth]
  omega
theorem eqvAll_strs : ∀ w v : List Str, PyData.eqvAll (w.map PyData.str) (v.map PyData.str) = decide (w = v)
  | [], [] => by simp [PyData.eqvAll]
  | [], _ :: _ => by simp [PyData.eqvAll]
  | _ :: _, [] => by simp [PyData.eqvAll]
  | x :: w, y :: v => by
    simp only [List.map_cons, PyData.eqvAll, PyData.eqv, eqvAll_strs w v]
    by_cases h : x = y
    · subst h
      simp
    · rw [show (x == y) = false from beq_eq_false_iff_ne.mpr h]
      simp [h]
section
variable {S : Store} {w v : List Str} {x y : Str}
theorem eqPy_ll (hw : TxOk w) (hv : TxOk v) : eqPy S (tl w) (tl v) = some (decide (w = v)) := by
  unfold eqPy pyA lst?
  simp only [toPys_strs, Option.map_some, if_pos (And.intro (shaped_strs w hw) (shaped_strs v hv)), PyData.eqv, eqvAll_strs]
theorem eqPy_tt (hw : TxOk w) (hv : TxOk v) : eqPy S (tt w) (tt v) = some (decide (w = v)) := by
  unfold eqPy pyA lst?
  simp only [toPy, toPys_strs, Option.map_some, if_pos (And.intro (shaped_strsT w hw) (shaped_strsT v hv)), PyData.eqv, eqvAll_strs]
theorem hEq_ll (hw : TxOk w) (hv : TxOk v) : hEq (tl w) (tl v) S = .ok (.val (.bl (decide (w = v)))) S := by
  unfold hEq eqA eqS
  simp only [eqPy_ll hw hv]
theorem hNe_ll (hw : TxOk w) (hv : TxOk v) : hNe (tl w) (tl v) S = .ok (.val (.bl (!decide (w = v)))) S := by
  unfold hNe eqA eqS
  simp only [eqPy_ll hw hv]
theorem hEq_tt (hw : TxOk w) (hv : TxOk v) : hEq (tt w) (tt v) S = .ok (.val (.bl (decide (w = v)))) S := by
  unfold hEq eqA eqS
  simp only [eqPy_tt hw hv]
theorem hNe_tt (hw : TxOk w) (hv : TxOk v) : hNe (tt w) (tt v) S = .ok (.val (.bl (!decide (w = v)))) S := by
  unfold hNe eqA eqS
  simp only [eqPy_tt hw hv]
theorem hNe_ss : hNe (.val (.str x)) (.val (.str y)) S = .ok (.val (.bl (!(x == y)))) S := rfl
theorem hEq_ss : hEq (.val (.str x)) (.val (.str y)) S = .ok (.val (.bl (x == y))) S := rfl
theorem any_strs (w : List Str) (x : Str) : ((w.map PyData.str).any fun z => PyData.eqv z (.str x)) = decide (x ∈ w) := by
  induction w with
  | nil => simp
  | cons y w ih =>
    simp only [List.map_cons, List.any_cons, ih, PyData.eqv]
    by_cases h : y = x
    · subst h
      simp
    · rw [show (y == x) = false from beq_eq_false_iff_ne.mpr h]
      simp [Ne.symm h]
theorem shaped_str (hx : PyData.strOk x = true) : SeqAt.shaped (.str x) = true := by
  unfold SeqAt.shaped
  simp [PyData.canLay0, PyData.depth, hx]
theorem inD_l (hx : PyData.strOk x = true) (hw : TxOk w) : inD S (.val (.str x)) (tl w) = some (decide (x ∈ w)) := by
  unfold inD lst?
  simp only [toPy, toPys_strs, if_pos (shaped_strs w hw), if_pos (shaped_str hx), any_strs]
theorem inD_t (hx : PyData.strOk x = true) (hw : TxOk w) : inD S (.val (.str x)) (tt w) = some (decide (x ∈ w)) := by
  unfold inD lst? tup?
  simp only [toPy, toPys_strs, if_pos (shaped_strs w hw), if_pos (shaped_str hx), any_strs]
theorem hIn_l (hx : PyData.strOk x = true) (hw : TxOk w) : hIn (.val (.str x)) (tl w) S = .ok (.val (.bl (decide (x ∈ w)))) S := by
  unfold hIn inA inS
  simp only [inD_l hx hw]
theorem hIn_t (hx : PyData.strOk x = true) (hw : TxOk w) : hIn (.val (.str x)) (tt w) S = .ok (.val (.bl (decide (x ∈ w)))) S := by
  unfold hIn inA inS
  simp only [inD_t hx hw]
theorem hNotIn_l (hx : PyData.strOk x = true) (hw : TxOk w) : hNotIn (.val (.str x)) (tl w) S = .ok (.val (.bl (!decide (x ∈ w)))) S := by
  unfold hNotIn inA inS
  simp only [inD_l hx hw]
theorem strs_ts : ∀ w : List Str, strs? (ts w) = some w
  | [] => rfl
  | x :: w => by
    show (strs? (ts w)).map (x :: ·) = _
    rw [strs_ts w]
    rfl
theorem kJoin_l {sep : Str} (h : (w.map (·.length)).sum + w.length * sep.length ≤ 100000) : kJoin (.val (.str sep)) [tl w] S = .ok (.val (.str (Txt.join sep w))) S := by
  unfold kJoin starA
  simp only [strs_ts, if_pos h]
theorem kJoin_t {sep : Str} (h : (w.map (·.length)).sum + w.length * sep.length ≤ 100000) : kJoin (.val (.str sep)) [tt w] S = .ok (.val (.str (Txt.join sep w))) S := by
  unfold kJoin starA
  simp only [strs_ts, if_pos h]
theorem join_len {sep : Str} (h : (w.map (·.length)).sum + w.length * sep.length ≤ 100000) : (Txt.join sep w).length ≤ 100000 := by
  rw [TL.join_eq]
  exact Nat.le_trans (StrLaws.join_length_le sep w) h
/-- the text's words are its rows again -/
theorem split_sp (hne : w ≠ []) (hp : ∀ p ∈ w, 32 ∉ TL.tl p) : Txt.split (Txt.join " " w) " " = w := TL.split_join (s := 32) (S := []) (by decide +kernel) (by decide +kernel) hne hp
theorem kSplit_j (h : (w.map (·.length)).sum + w.length * (" " : Str).length ≤ 100000) (hne : w ≠ []) (hp : ∀ p ∈ w, 32 ∉ TL.tl p) : kSplit (.val (.str (Txt.join " " w))) [.val (.str " ")] S = .ok (tl w) S := by
  unfold kSplit
  simp only [split_sp hne hp]
  rw [if_pos ⟨by decide +kernel, join_len h⟩]
theorem fits (h1 : ∀ x ∈ w, x.length ≤ 20) (h2 : w.length ≤ 20) : (w.map (·.length)).sum + w.length * (" " : Str).length ≤ 100000 := by
  have e : (" " : Str).length = 1 := by decide +kernel
  rw [e]
  have k : ∀ v : List Str, (∀ x ∈ v, x.length ≤ 20) → (v.map (·.length)).sum ≤ 20 * v.length := by
    intro v
    induction v with
    | nil => simp
    | cons y v ih =>
      intro h
      have a := h y (List.mem_cons_self ..)
      have b := ih fun x hx => h x (List.mem_cons_of_mem _ hx)
      simp only [List.map_cons, List.sum_cons, List.length_cons]
      omega
  have := k w h1
  omega
end
end R


namespace Lw
open PySem L2 R
def topS (i : Nat) : Stmt := PySem.Challenge.pw_rowvault_k78_orders_made_and_told.main.body.getD i (.Pass ⟨0, 0, 0, 0⟩)
def clsB : Stmt → List Stmt
  | .ClassDef (body := b) .. => b
  | _ => []
def mS (i j : Nat) : Stmt := (clsB (topS i)).getD j (.Pass ⟨0, 0, 0, 0⟩)
def clsNames : List Str := [("VaultError" : Str), ("BadInput" : Str), ("Refused" : Str), ("BadLayout" : Str), ("BadRule" : Str), ("BadOrder" : Str), ("BadPlace" : Str), ("BadCount" : Str), ("BadText" : Str), ("TooMany" : Str), ("Torn" : Str), ("Order" : Str)]
def tfq : List (He.Defn × Str) := [((("_law_signs_right" : Str), none), "_law_signs_right.<locals>.<lambda>"), ((("_law_refused_right" : Str), none), "_law_refused_right.<locals>.<lambda>"), ((("_law_texts_right" : Str), none), "_law_texts_right.<locals>.<lambda>")]
def tf : List He.Defn := tfq.map (·.1)
def cls (K : PySem.W.Frag) : CL := ⟨fun n => He.ga K (clsNames.getD n ""), tfq.map fun p => ((He.cT K p.1).2, p.2), fun _ => none, [], []⟩
def mroT : List (List Tag) := [([.o 0, .b "ValueError"] : List Tag), ([.o 1, .o 0, .b "ValueError"] : List Tag), ([.o 2, .o 0, .b "ValueError"] : List Tag), ([.o 3, .o 1, .o 0, .b "ValueError"] : List Tag), ([.o 4, .o 1, .o 0, .b "ValueError"] : List Tag), ([.o 5, .o 1, .o 0, .b "ValueError"] : List Tag), ([.o 6, .o 1, .o 0, .b "ValueError"] : List Tag), ([.o 7, .o 1, .o 0, .b "ValueError"] : List Tag), ([.o 8, .o 1, .o 0, .b "ValueError"] : List Tag), ([.o 9, .o 2, .o 0, .b "ValueError"] : List Tag), ([.o 10, .o 2, .o 0, .b "ValueError"] : List Tag), ([.o 11] : List Tag)]
def fldT : List (List Str) := [([] : List Str), ([] : List Str), ([] : List Str), (["part"] : List Str), (["part"] : List Str), (["part"] : List Str), (["value"] : List Str), (["value"] : List Str), (["line", "word"] : List Str), (["what", "most"] : List Str), ([] : List Str), (["words"] : List Str)]
def excT : List Bool := [true, true, true, true, true, true, true, true, true, true, true, false]
def ct : CtT := ⟨12, fun c => mroT.getD c [], fun c => excT.getD c false, fun c => fldT.getD c []⟩
def mkB (K : PySem.W.Frag) (c : Nat) : Bool := oexB K (cls K c) && (decide (PySem.W.findIn K (.ref (cls K c)) "__init__" = some (some (.ref (He.fAd K (clsNames.getD c "", some "__init__"))))) && decide (PySem.W.typeIn K (.ref (He.fAd K (clsNames.getD c "", some "__init__"))) = some (.type "function")))
def fn : List (He5.DefA) := [(⟨fun K => (He.fAd K ("is_integer", none)), "is_integer", "is_integer", defArgs (topS 2), defBody (topS 2), defScope (topS 2), [], []⟩ : He5.DefA),
  (⟨fun K => (He.fAd K ("is_between", none)), "is_between", "is_between", defArgs (topS 3), defBody (topS 3), defScope (topS 3), [], []⟩ : He5.DefA),
  (⟨fun K => (He.ma K (cls K 11) "__eq__"), "__eq__", "Order.__eq__", defArgs (mS 17 12), defBody (mS 17 12), defScope (mS 17 12), [], []⟩ : He5.DefA),
  (⟨fun K => (He.fAd K ("is_word", none)), "is_word", "is_word", defArgs (topS 18), defBody (topS 18), defScope (topS 18), [], []⟩ : He5.DefA),
  (⟨fun K => (He.ma K (cls K 11) "__init__"), "__init__", "Order.__init__", defArgs (mS 17 1), defBody (mS 17 1), defScope (mS 17 1), [], []⟩ : He5.DefA),
  (⟨fun K => (He5.wf K (cls K 11) "classmethod" "read"), "read", "Order.read", defArgs (mS 17 2), defBody (mS 17 2), defScope (mS 17 2), [], []⟩ : He5.DefA),
  (⟨fun K => (He.ma K (cls K 11) "__len__"), "__len__", "Order.__len__", defArgs (mS 17 5), defBody (mS 17 5), defScope (mS 17 5), [], []⟩ : He5.DefA),
  (⟨fun K => (He.ma K (cls K 11) "__iter__"), "__iter__", "Order.__iter__", defArgs (mS 17 6), defBody (mS 17 6), defScope (mS 17 6), [], []⟩ : He5.DefA),
  (⟨fun K => (He.ma K (cls K 11) "__getitem__"), "__getitem__", "Order.__getitem__", defArgs (mS 17 7), defBody (mS 17 7), defScope (mS 17 7), [], []⟩ : He5.DefA),
  (⟨fun K => (He.ma K (cls K 11) "__contains__"), "__contains__", "Order.__contains__", defArgs (mS 17 8), defBody (mS 17 8), defScope (mS 17 8), [], []⟩ : He5.DefA),
  (⟨fun K => (He.ma K (cls K 11) "__add__"), "__add__", "Order.__add__", defArgs (mS 17 9), defBody (mS 17 9), defScope (mS 17 9), [], []⟩ : He5.DefA),
  (⟨fun K => (He.ma K (cls K 11) "__sub__"), "__sub__", "Order.__sub__", defArgs (mS 17 10), defBody (mS 17 10), defScope (mS 17 10), [], []⟩ : He5.DefA),
  (⟨fun K => (He.ma K (cls K 11) "__invert__"), "__invert__", "Order.__invert__", defArgs (mS 17 11), defBody (mS 17 11), defScope (mS 17 11), [], []⟩ : He5.DefA),
  (⟨fun K => (He.ma K (cls K 11) "__str__"), "__str__", "Order.__str__", defArgs (mS 17 13), defBody (mS 17 13), defScope (mS 17 13), [], []⟩ : He5.DefA),
  (⟨fun K => (He.fAd K ("_law_pen", none)), "_law_pen", "_law_pen", defArgs (topS 20), defBody (topS 20), defScope (topS 20), [], []⟩ : He5.DefA),
  (⟨fun K => (He.fAd K ("_law_draw", none)), "_law_draw", "_law_draw", defArgs (topS 21), defBody (topS 21), defScope (topS 21), [], []⟩ : He5.DefA),
  (⟨fun K => (He.fAd K ("_law_pick", none)), "_law_pick", "_law_pick", defArgs (topS 22), defBody (topS 22), defScope (topS 22), [], []⟩ : He5.DefA),
  (⟨fun K => (He.fAd K ("_law_heard", none)), "_law_heard", "_law_heard", defArgs (topS 23), defBody (topS 23), defScope (topS 23), [], []⟩ : He5.DefA),
  (⟨fun K => (He.fAd K ("_law_all", none)), "_law_all", "_law_all", defArgs (topS 24), defBody (topS 24), defScope (topS 24), [], []⟩ : He5.DefA),
  (⟨fun K => (He.fAd K ("_law_words", none)), "_law_words", "_law_words", defArgs (topS 25), defBody (topS 25), defScope (topS 25), [], []⟩ : He5.DefA),
  (⟨fun K => (He.fAd K ("_law_made", none)), "_law_made", "_law_made", defArgs (topS 26), defBody (topS 26), defScope (topS 26), [], []⟩ : He5.DefA),
  (⟨fun K => (He.fAd K ("_law_is", none)), "_law_is", "_law_is", defArgs (topS 27), defBody (topS 27), defScope (topS 27), [], []⟩ : He5.DefA),
  (⟨fun K => (He.fAd K ("_law_signs_right", none)), "_law_signs_right", "_law_signs_right", defArgs (topS 28), defBody (topS 28), defScope (topS 28), [], []⟩ : He5.DefA),
  (⟨fun K => (He.fAd K ("_law_refused_right", none)), "_law_refused_right", "_law_refused_right", defArgs (topS 29), defBody (topS 29), defScope (topS 29), [], []⟩ : He5.DefA),
  (⟨fun K => (He.fAd K ("_law_texts_right", none)), "_law_texts_right", "_law_texts_right", defArgs (topS 30), defBody (topS 30), defScope (topS 30), [], []⟩ : He5.DefA),
  (⟨fun K => (He.fAd K ("law", none)), "law", "law", defArgs (topS 31), defBody (topS 31), defScope (topS 31), [], []⟩ : He5.DefA),
  (⟨fun K => (He.fAd K ("BadOrder", some "__init__")), "__init__", "BadOrder.__init__", defArgs (mS 10 0), defBody (mS 10 0), defScope (mS 10 0), [], []⟩ : He5.DefA),
  (⟨fun K => (He.fAd K ("BadText", some "__init__")), "__init__", "BadText.__init__", defArgs (mS 13 0), defBody (mS 13 0), defScope (mS 13 0), [], []⟩ : He5.DefA),
  (⟨fun K => (He.fAd K ("BadCount", some "__init__")), "__init__", "BadCount.__init__", defArgs (mS 12 0), defBody (mS 12 0), defScope (mS 12 0), [], []⟩ : He5.DefA)]
def fa : List He.Fa := [(.glo "law" : He.Fa), (.free "int" : He.Fa), (.free "isinstance" : He.Fa), (.free "bool" : He.Fa), (.glo "is_integer" : He.Fa), (.glo "Order" : He.Fa), (.free "str" : He.Fa), (.free "len" : He.Fa), (.glo "BadOrder" : He.Fa), (.free "enumerate" : He.Fa), (.glo "is_word" : He.Fa), (.glo "BadText" : He.Fa), (.free "iter" : He.Fa), (.glo "is_between" : He.Fa), (.glo "BadCount" : He.Fa), (.free "list" : He.Fa), (.free "abs" : He.Fa), (.glo "_law_draw" : He.Fa), (.glo "VaultError" : He.Fa), (.glo "BadLayout" : He.Fa), (.free "repr" : He.Fa), (.glo "BadPlace" : He.Fa), (.glo "BadRule" : He.Fa), (.glo "TooMany" : He.Fa), (.glo "Torn" : He.Fa), (.glo "_law_all" : He.Fa), (.free "range" : He.Fa), (.free "tuple" : He.Fa), (.glo "_law_made" : He.Fa), (.glo "_law_is" : He.Fa), (.glo "_law_pick" : He.Fa), (.glo "_law_heard" : He.Fa), (.glo "_law_pen" : He.Fa), (.glo "_law_words" : He.Fa), (.glo "_law_signs_right" : He.Fa), (.glo "_law_refused_right" : He.Fa), (.glo "_law_texts_right" : He.Fa)]
def exl : List (PySem.W.Frag → Bool) := [(fun K => (K.lookup sysModules).isNone : PySem.W.Frag → Bool),
  (fun K => ctB ct cls K : PySem.W.Frag → Bool),
  (fun K => methB K (cls K 11) "__eq__" : PySem.W.Frag → Bool),
  (fun K => owB ct K (cls K) 11 : PySem.W.Frag → Bool),
  (fun K => csB K (cls K 11) "WORDS" ["block", "page", "cell", "bucket", "parity"] : PySem.W.Frag → Bool),
  (fun K => mkrB K (cls K 11) : PySem.W.Frag → Bool),
  (fun K => cmB K (cls K 11) "read" : PySem.W.Frag → Bool),
  (fun K => methB K (cls K 11) "__len__" : PySem.W.Frag → Bool),
  (fun K => methB K (cls K 11) "__iter__" : PySem.W.Frag → Bool),
  (fun K => methB K (cls K 11) "__getitem__" : PySem.W.Frag → Bool),
  (fun K => methB K (cls K 11) "__contains__" : PySem.W.Frag → Bool),
  (fun K => methB K (cls K 11) "__add__" : PySem.W.Frag → Bool),
  (fun K => neB K (cls K) [11] : PySem.W.Frag → Bool),
  (fun K => ssB K (cls K) [11] : PySem.W.Frag → Bool),
  (fun K => methB K (cls K 11) "__sub__" : PySem.W.Frag → Bool),
  (fun K => methB K (cls K 11) "__invert__" : PySem.W.Frag → Bool),
  (fun K => methB K (cls K 11) "__str__" : PySem.W.Frag → Bool),
  (fun K => opT ct K (cls K) "add" : PySem.W.Frag → Bool),
  (fun K => lackB K (cls K) "__bool__" [11] : PySem.W.Frag → Bool),
  (fun K => fnB K (cls K) "__getitem__" [11] : PySem.W.Frag → Bool),
  (fun K => opT ct K (cls K) "sub" : PySem.W.Frag → Bool),
  (fun K => tabD tfq K : PySem.W.Frag → Bool),
  (fun K => mkB K 5 : PySem.W.Frag → Bool),
  (fun K => mkB K 8 : PySem.W.Frag → Bool),
  (fun K => mkB K 7 : PySem.W.Frag → Bool)]
def ex (K : PySem.W.Frag) : Bool := exl.all fun f => f K
abbrev TX (K : PySem.W.Frag) (mg : Str → Option Value) (base : Heap) : Prop := TXB fa fn tf ex K mg base
section
variable {P : Program} {w : World} {K : PySem.W.Frag} {mg : Str → Option Value} {base : Heap}
theorem ex_at (T : TX K mg base) (i : Nat) {f : PySem.W.Frag → Bool} (h : exl[i]? = some f := by rfl) : f K = true := List.all_eq_true.mp (show (exl.all fun f => f K) = true from T.c.more) f (List.mem_of_getElem? h)
theorem ex_sm (T : Tx fa fn ex K mg) : K.lookup sysModules = none := Option.isNone_iff_eq_none.mp (List.all_eq_true.mp (show (exl.all fun f => f K) = true from T.c.more) (fun K => (K.lookup sysModules).isNone) (List.mem_of_getElem? (i := 0) rfl))
theorem ct_ok (T : TX K mg base) : CtOk ct K (cls K) := ctB_ok (ex_at T 1)
theorem mk_ok {c : Nat} (h : mkB K c = true) : OexC K (cls K c) ∧ PySem.W.findIn K (.ref (cls K c)) "__init__" = some (some (.ref (He.fAd K (clsNames.getD c "", some "__init__")))) ∧ PySem.W.typeIn K (.ref (He.fAd K (clsNames.getD c "", some "__init__"))) = some (.type "function") := by
  obtain ⟨h1, h⟩ := Bool.and_eq_true_iff.mp h
  obtain ⟨h2, h3⟩ := Bool.and_eq_true_iff.mp h
  exact ⟨oexB_ok h1, of_decide_eq_true h2, of_decide_eq_true h3⟩
theorem tfq_tb (T : TX K mg base) : ∀ p ∈ tfq, LamX.TabB base mg (He.cT K p.1).1 (He.cT K p.1).2 := fun p hp => T.tb p.1 (List.mem_map.mpr ⟨p, hp, rfl⟩)
theorem scI_BadOrder : FnScope ["self", "part"] ["self", "part"] (defScope (mS 10 0)) := ⟨rfl, rfl, rfl, by decide +kernel, rfl, by decide +kernel, by decide +kernel⟩
theorem mk_BadOrder (T : TX K mg base) : ExR P w K mg base (cls K 5) ["part"] [] := by
  obtain ⟨fd, F⟩ := T.c.def_ 26
  obtain ⟨h1, h2, h3⟩ := mk_ok (ex_at T 22)
  refine ⟨⟨_, fd, ["self", "part"], h1, h2, h3, F.bindsN (fun _ _ _ _ _ _ us hl => match us, hl with | [_, _], _ => rfl), rfl, okX1 F scI_BadOrder h1 ((ct_ok T).noat 5 (by decide) "part" (by decide)) fun cdv A outer s H E => pss_one (ps_ost (pe_var (i := 0) rfl (Or.inl rfl)) (pe_var (i := 1) rfl (Or.inl rfl))), ?_⟩, by decide, by decide⟩
  exact fun b hb => by cases hb
theorem scI_BadText : FnScope ["self", "line", "word"] ["self", "line", "word"] (defScope (mS 13 0)) := ⟨rfl, rfl, rfl, by decide +kernel, rfl, by decide +kernel, by decide +kernel⟩
theorem mk_BadText (T : TX K mg base) : ExR P w K mg base (cls K 8) ["line", "word"] [] := by
  obtain ⟨fd, F⟩ := T.c.def_ 27
  obtain ⟨h1, h2, h3⟩ := mk_ok (ex_at T 23)
  refine ⟨⟨_, fd, ["self", "line", "word"], h1, h2, h3, F.bindsN (fun _ _ _ _ _ _ us hl => match us, hl with | [_, _, _], _ => rfl), rfl, okX2 F scI_BadText h1 ((ct_ok T).noat 8 (by decide) "line" (by decide)) ((ct_ok T).noat 8 (by decide) "word" (by decide)) fun cdv A outer s H E => pss_cons (ps_ost (pe_var (i := 0) rfl (Or.inl rfl)) (pe_var (i := 1) rfl (Or.inl rfl))) (pss_one (ps_ost (pe_var (i := 0) rfl (Or.inl rfl)) (pe_var (i := 2) rfl (Or.inl rfl)))), ?_⟩, by decide, by decide⟩
  exact fun b hb => by cases hb
theorem scI_BadCount : FnScope ["self", "value"] ["self", "value"] (defScope (mS 12 0)) := ⟨rfl, rfl, rfl, by decide +kernel, rfl, by decide +kernel, by decide +kernel⟩
theorem mk_BadCount (T : TX K mg base) : ExR P w K mg base (cls K 7) ["value"] [] := by
  obtain ⟨fd, F⟩ := T.c.def_ 28
  obtain ⟨h1, h2, h3⟩ := mk_ok (ex_at T 24)
  refine ⟨⟨_, fd, ["self", "value"], h1, h2, h3, F.bindsN (fun _ _ _ _ _ _ us hl => match us, hl with | [_, _], _ => rfl), rfl, okX1 F scI_BadCount h1 ((ct_ok T).noat 7 (by decide) "value" (by decide)) fun cdv A outer s H E => pss_one (ps_ost (pe_var (i := 0) rfl (Or.inl rfl)) (pe_var (i := 1) rfl (Or.inl rfl))), ?_⟩, by decide, by decide⟩
  exact fun b hb => by cases hb
abbrev st_is_integer : Stmt := topS 2
abbrev N_is_integer : List Str := ["value"]
theorem sc_is_integer : FnScope N_is_integer ["value"] (defScope st_is_integer) := ⟨rfl, rfl, rfl, by decide +kernel, rfl, by decide +kernel, by decide +kernel⟩
def e_is_integer : Sv := sRet (eAndE (eApp (hIsI ct) (eCons (eVar 0) (eCons (eC (.ty "int")) (eNil)))) (eNotE (eApp (hIsI ct) (eCons (eVar 0) (eCons (eC (.ty "bool")) (eNil))))))
def g_is_integer : List A → Store → Out A := defF 1 e_is_integer
theorem okF_is_integer (T : TX K mg base) : FnF P w K mg base (cls K) 1 "is_integer" "is_integer" (defArgs st_is_integer) (defBody st_is_integer) (defScope st_is_integer) (He.fAd K ("is_integer", none)) ["value"] g_is_integer :=
  fnF_mk (N := N_is_integer) (k := 0) (fb := e_is_integer) (T.c.def_ 0) sc_is_integer fun cdv A outer s H E hr B =>
    (sss_one (ss_ret (se_and (se_callB (b_isI (ct_ok T)) (T.free 2) (sa_cons (se_var 0) (sa_cons (se_ty (T.free 1)) sa_nil))) (se_one (se_not (se_callB (b_isI (ct_ok T)) (T.free 2) (sa_cons (se_var 0) (sa_cons (se_ty (T.free 3)) sa_nil))))))))
theorem ok_is_integer (T : TX K mg base) : FnR P w K mg base (cls K) 1 (He.fAd K ("is_integer", none)) ["value"] g_is_integer := (okF_is_integer T).r (fun _ _ _ _ _ _ us hl => match us, hl with | [_], _ => rfl)
abbrev st_is_between : Stmt := topS 3
abbrev N_is_between : List Str := ["value", "least", "most"]
theorem sc_is_between : FnScope N_is_between ["value", "least", "most"] (defScope st_is_between) := ⟨rfl, rfl, rfl, by decide +kernel, rfl, by decide +kernel, by decide +kernel⟩
def e_is_between : Sv := sRet (eAndE (eApp (callG 1 g_is_integer []) (eCons (eVar 0) (eNil))) (eChain hLe hLe (eVar 1) (eVar 0) (eVar 2)))
def g_is_between : List A → Store → Out A := defF 3 e_is_between
theorem okF_is_between (T : TX K mg base) : FnF P w K mg base (cls K) 2 "is_between" "is_between" (defArgs st_is_between) (defBody st_is_between) (defScope st_is_between) (He.fAd K ("is_between", none)) ["value", "least", "most"] g_is_between :=
  fnF_mk (N := N_is_between) (k := 1) (fb := e_is_between) (T.c.def_ 1) sc_is_between fun cdv A outer s H E hr B =>
    (sss_one (ss_ret (se_and (se_fn (ok_is_integer T) B (hr.mono (by decide)) (T.glo 4) (sa_cons (se_var 0) sa_nil)) (se_one (se_chain o_le o_le (se_var 1) (se_var 0) (se_var 2))))))
theorem ok_is_between (T : TX K mg base) : FnR P w K mg base (cls K) 2 (He.fAd K ("is_between", none)) ["value", "least", "most"] g_is_between := (okF_is_between T).r (fun _ _ _ _ _ _ us hl => match us, hl with | [_, _, _], _ => rfl)
abbrev st_Order___eq__ : Stmt := mS 17 12
abbrev N_Order___eq__ : List Str := ["self", "other"]
theorem sc_Order___eq__ : FnScope N_Order___eq__ ["self", "other"] (defScope st_Order___eq__) := ⟨rfl, rfl, rfl, by decide +kernel, rfl, by decide +kernel, by decide +kernel⟩
def e_Order___eq__ : Sv := sRet (eAndE (eApp (hIsI ct) (eCons (eVar 1) (eCons (eC (.cls 11)) (eNil)))) (eOp hEq (eUn (hAttr ct "words") (eVar 0)) (eUn (hAttr ct "words") (eVar 1))))
def g_Order___eq__ : List A → Store → Out A := defF 2 e_Order___eq__
theorem okF_Order___eq__ (T : TX K mg base) : FnF P w K mg base (cls K) 1 "__eq__" "Order.__eq__" (defArgs st_Order___eq__) (defBody st_Order___eq__) (defScope st_Order___eq__) (He.ma K (cls K 11) "__eq__") ["self", "other"] g_Order___eq__ :=
  fnF_mk (N := N_Order___eq__) (k := 0) (fb := e_Order___eq__) (T.c.def_ 2) sc_Order___eq__ fun cdv A outer s H E hr B =>
    (sss_one (ss_ret (se_and (se_callB (b_isI (ct_ok T)) (T.free 2) (sa_cons (se_var 1) (sa_cons (se_cls (c := 11) (T.glo 5)) sa_nil))) (se_one (se_cmp (o_eq hr.units) (se_attr (ct_ok T) (se_var 0)) (se_attr (ct_ok T) (se_var 1)))))))
theorem ok_Order___eq__ (T : TX K mg base) : FnR P w K mg base (cls K) 1 (He.ma K (cls K 11) "__eq__") ["self", "other"] g_Order___eq__ := (okF_Order___eq__ T).r (fun _ _ _ _ _ _ us hl => match us, hl with | [_, _], _ => rfl)
theorem mt_Order___eq__ (T : TX K mg base) : MtR P w K mg base (cls K) 1 11 "__eq__" (callG 2 g_Order___eq__ []) := mt_mk (ct_ok T) ⟨by decide, rfl⟩ (ex_at T 2) (ok_Order___eq__ T).v
def tb_eq_1 : Tb := (11, (callG 2 g_Order___eq__ [])) :: []
theorem tbk_eq_1 (T : TX K mg base) : TbOk P w K mg base (cls K) ct 1 "__eq__" tb_eq_1 := tb_cons (mt_Order___eq__ T) (owB_ok (ex_at T 3)) (by decide) tb_nil
abbrev st_is_word : Stmt := topS 18
abbrev N_is_word : List Str := ["value"]
theorem sc_is_word : FnScope N_is_word ["value"] (defScope st_is_word) := ⟨rfl, rfl, rfl, by decide +kernel, rfl, by decide +kernel, by decide +kernel⟩
def e_is_word : Sv := sRet (eAndE (eApp (hIsI ct) (eCons (eVar 0) (eCons (eC (.ty "str")) (eNil)))) (eOp hIn (eVar 0) (eC (.tup ((["block", "page", "cell", "bucket", "parity"] : List Str).map D.str)))))
def g_is_word : List A → Store → Out A := defF 1 e_is_word
theorem okF_is_word (T : TX K mg base) : FnF P w K mg base (cls K) 1 "is_word" "is_word" (defArgs st_is_word) (defBody st_is_word) (defScope st_is_word) (He.fAd K ("is_word", none)) ["value"] g_is_word :=
  fnF_mk (N := N_is_word) (k := 0) (fb := e_is_word) (T.c.def_ 3) sc_is_word fun cdv A outer s H E hr B =>
    (sss_one (ss_ret (se_and (se_callB (b_isI (ct_ok T)) (T.free 2) (sa_cons (se_var 0) (sa_cons (se_ty (T.free 6)) sa_nil))) (se_one (se_cmp (o_in (room65 hr)) (se_var 0) (se_cstrs (c := 11) (ex_at T 4) (T.glo 5)))))))
theorem ok_is_word (T : TX K mg base) : FnR P w K mg base (cls K) 1 (He.fAd K ("is_word", none)) ["value"] g_is_word := (okF_is_word T).r (fun _ _ _ _ _ _ us hl => match us, hl with | [_], _ => rfl)
abbrev st_Order___init__ : Stmt := mS 17 1
abbrev N_Order___init__ : List Str := ["self", "words", "at", "word"]
theorem sc_Order___init__ : FnScope N_Order___init__ ["self", "words"] (defScope st_Order___init__) := ⟨rfl, rfl, rfl, by decide +kernel, rfl, by decide +kernel, by decide +kernel⟩
def e_Order___init__ : Sv := sSeq (sIf (tBool (eOp hEq (eApp hLen (eCons (eVar 1) (eNil))) (eC (.int 0)))) (sRaise 5 ["part"] (eCons (eC (.str "words")) (eNil)))
    (sNext))
    (sSeq (sFor (iEnumT (eCons (eVar 1) (eNil))) (gTupE 2 (gMore (gSet 2) (gMore (gSet 3) (gNone))))
    (sIf (tOrE (tNotE (tBool (eApp (callG 1 g_is_word []) (eCons (eVar 3) (eNil))))) (tBool (eOp hIn (eVar 3) (eSlA (eVar 1) (oNone) (oSome (eVar 2)))))) (sRaise 5 ["part"] (eCons (eVar 2) (eNil)))
    (sNext)))
    (sFldE ct "words" (eVar 0) (eVar 1)))
def g_Order___init__ : List A → Store → Out A := defF 4 e_Order___init__
theorem okV_Order___init__ (T : TX K mg base) : FnV P w K mg base (cls K) 3 (He.ma K (cls K 11) "__init__") (starG 1 g_Order___init__) := by
  obtain ⟨fd, F⟩ := T.c.def_ 4
  exact fnV_star (ps := ["self"]) (pv := "words") (N := N_Order___init__) (k := 2) (fb := e_Order___init__) F sc_Order___init__ (fun _ _ _ _ _ _ us rest hl => StX.bind_star1 (B := fun xs => bindArgs _ ⟨xs, []⟩) (fun _ => rfl) (fun _ _ _ => rfl) us rest hl) fun cdv A outer s H E hr B =>
    (sss_cons (ss_if (st_cmp (o_eq hr.units) (se_callB b_len (T.free 7) (sa_cons (se_var 1) sa_nil)) se_int) (sss_one (ss_raise (mk_BadOrder T) B (hr.mono (by decide)) (T.glo 8) (sa_cons se_str sa_nil)))
      sss_nil)
      (sss_cons (ss_for B (si_enumT (sa_cons (se_var 1) sa_nil) (T.free 9)) (sg_tup (sgs_cons (sg_name 2 sc_Order___init__.nd) (sgs_cons (sg_name 3 sc_Order___init__.nd) sgs_nil (fun _ _ _ _ _ z => z)) (fun _ _ _ _ _ z => z)))
      (sss_one (ss_if (SW.pt (sw_or (st_not (st_val (se_fn (ok_is_word T) B (hr.mono (by decide)) (T.glo 10) (sa_cons (se_var 3) sa_nil)))) (sw_or1 (st_cmp (o_in (room65 hr)) (se_var 3) (se_slA (se_var 1) so_none (so_some (se_var 2))))))) (sss_one (ss_raise (mk_BadOrder T) B (hr.mono (by decide)) (T.glo 8) (sa_cons (se_var 2) sa_nil)))
      sss_nil)))
      (sss_one (ss_fld (ct_ok T) (se_var 0) (se_var 1)))))
theorem ob_Order (T : TX K mg base) : ObR P w K mg base (cls K) 3 11 (starG 1 g_Order___init__) := ob_mk (ex_at T 5) (okV_Order___init__ T)
abbrev st_Order_read : Stmt := mS 17 2
abbrev N_Order_read : List Str := ["cls", "text", "words", "at", "word"]
theorem sc_Order_read : FnScope N_Order_read ["cls", "text"] (defScope st_Order_read) := ⟨rfl, rfl, rfl, by decide +kernel, rfl, by decide +kernel, by decide +kernel⟩
def e_Order_read : Sv := sSeq (sIf (tNotE (tBool (eApp (hIsI ct) (eCons (eVar 1) (eCons (eC (.ty "str")) (eNil)))))) (sRaise 8 ["line", "word"] (eCons (eC (.int 0)) (eCons (eC (.int 0)) (eNil))))
    (sNext))
    (sSeq (sSet 2 (eBm "str" kSplit (eVar 1) (eCons (eC (.str " ")) (eNil))))
    (sSeq (sFor (iEnumT (eCons (eVar 2) (eNil))) (gTupE 2 (gMore (gSet 3) (gMore (gSet 4) (gNone))))
    (sIf (tOrE (tNotE (tBool (eApp (callG 1 g_is_word []) (eCons (eVar 4) (eNil))))) (tBool (eOp hIn (eVar 4) (eSlA (eVar 2) (oNone) (oSome (eVar 3)))))) (sRaise 8 ["line", "word"] (eCons (eC (.int 0)) (eCons (eVar 3) (eNil))))
    (sNext)))
    (sRet (eApp (kMake 11 (starG 1 g_Order___init__)) (eStar (eVar 2) eNil)))))
def g_Order_read : List A → Store → Out A := defF 5 e_Order_read
theorem okF_Order_read (T : TX K mg base) : FnF P w K mg base (cls K) 5 "read" "Order.read" (defArgs st_Order_read) (defBody st_Order_read) (defScope st_Order_read) (He5.wf K (cls K 11) "classmethod" "read") ["cls", "text"] g_Order_read :=
  fnF_mk (N := N_Order_read) (k := 4) (fb := e_Order_read) (T.c.def_ 5) sc_Order_read fun cdv A outer s H E hr B =>
    (sss_cons (ss_if (st_not (st_val (se_callB (b_isI (ct_ok T)) (T.free 2) (sa_cons (se_var 1) (sa_cons (se_ty (T.free 6)) sa_nil))))) (sss_one (ss_raise (mk_BadText T) B (hr.mono (by decide)) (T.glo 11) (sa_cons se_int (sa_cons se_int sa_nil))))
      sss_nil)
      (sss_cons (ss_set 2 sc_Order_read.nd (se_bm PySem.F.plainAttrs_str PySem.F.slot_str_split PySem.F.type_str_split m_split (se_var 1) (sa_cons se_str sa_nil)))
      (sss_cons (ss_for B (si_enumT (sa_cons (se_var 2) sa_nil) (T.free 9)) (sg_tup (sgs_cons (sg_name 3 sc_Order_read.nd) (sgs_cons (sg_name 4 sc_Order_read.nd) sgs_nil (fun _ _ _ _ _ z => z)) (fun _ _ _ _ _ z => z)))
      (sss_one (ss_if (SW.pt (sw_or (st_not (st_val (se_fn (ok_is_word T) B (hr.mono (by decide)) (T.glo 10) (sa_cons (se_var 4) sa_nil)))) (sw_or1 (st_cmp (o_in (room65 hr)) (se_var 4) (se_slA (se_var 2) so_none (so_some (se_var 3))))))) (sss_one (ss_raise (mk_BadText T) B (hr.mono (by decide)) (T.glo 11) (sa_cons se_int (sa_cons (se_var 3) sa_nil))))
      sss_nil)))
      (sss_one (ss_ret (se_makeS (ob_Order T) B (hr.mono (by decide)) (T.glo 5) (se_var 2)))))))
theorem ok_Order_read (T : TX K mg base) : FnR P w K mg base (cls K) 5 (He5.wf K (cls K 11) "classmethod" "read") ["cls", "text"] g_Order_read := (okF_Order_read T).r (fun _ _ _ _ _ _ us hl => match us, hl with | [_, _], _ => rfl)
theorem cm_Order_read (T : TX K mg base) : CmR P w K mg base (cls K) 5 11 "read" (callG 2 g_Order_read []) := cm_mk (ex_at T 6) (ok_Order_read T).v
abbrev st_Order___len__ : Stmt := mS 17 5
abbrev N_Order___len__ : List Str := ["self"]
theorem sc_Order___len__ : FnScope N_Order___len__ ["self"] (defScope st_Order___len__) := ⟨rfl, rfl, rfl, by decide +kernel, rfl, by decide +kernel, by decide +kernel⟩
def e_Order___len__ : Sv := sRet (eApp hLen (eCons (eUn (hAttr ct "words") (eVar 0)) (eNil)))
def g_Order___len__ : List A → Store → Out A := defF 1 e_Order___len__
theorem okF_Order___len__ (T : TX K mg base) : FnF P w K mg base (cls K) 1 "__len__" "Order.__len__" (defArgs st_Order___len__) (defBody st_Order___len__) (defScope st_Order___len__) (He.ma K (cls K 11) "__len__") ["self"] g_Order___len__ :=
  fnF_mk (N := N_Order___len__) (k := 0) (fb := e_Order___len__) (T.c.def_ 6) sc_Order___len__ fun cdv A outer s H E hr B =>
    (sss_one (ss_ret (se_callB b_len (T.free 7) (sa_cons (se_attr (ct_ok T) (se_var 0)) sa_nil))))
theorem ok_Order___len__ (T : TX K mg base) : FnR P w K mg base (cls K) 1 (He.ma K (cls K 11) "__len__") ["self"] g_Order___len__ := (okF_Order___len__ T).r (fun _ _ _ _ _ _ us hl => match us, hl with | [_], _ => rfl)
theorem mt_Order___len__ (T : TX K mg base) : MtR P w K mg base (cls K) 1 11 "__len__" (callG 1 g_Order___len__ []) := mt_mk (ct_ok T) ⟨by decide, rfl⟩ (ex_at T 7) (ok_Order___len__ T).v
def tb_len_1 : Tb := (11, (callG 1 g_Order___len__ [])) :: []
theorem tbk_len_1 (T : TX K mg base) : TbOk P w K mg base (cls K) ct 1 "__len__" tb_len_1 := tb_cons (mt_Order___len__ T) (owB_ok (ex_at T 3)) (by decide) tb_nil
abbrev st_Order___iter__ : Stmt := mS 17 6
abbrev N_Order___iter__ : List Str := ["self"]
theorem sc_Order___iter__ : FnScope N_Order___iter__ ["self"] (defScope st_Order___iter__) := ⟨rfl, rfl, rfl, by decide +kernel, rfl, by decide +kernel, by decide +kernel⟩
theorem fi_Order___iter__ (T : TX K mg base) : FnI P w K mg base 2 (He.ma K (cls K 11) "__iter__") (SpI K (cls K) fun a S => (eUn (hAttr ct "words") (eVar 0)) (startE 1 [a]) S) := by
  obtain ⟨fd, F⟩ := T.c.def_ 7
  exact fnI_iter (N := N_Order___iter__) (k := 1) F sc_Order___iter__ (F.bindsN (fun _ _ _ _ _ _ us hl => match us, hl with | [_], _ => rfl)) (T.free 12) (fun _ _ _ _ _ _ => rfl) (fun _ _ _ _ _ _ => rfl) fun cdv A outer s H E hr B => (se_attr (ct_ok T) (se_var 0))
theorem it_Order (T : TX K mg base) : ItR P w K mg base (cls K) 2 11 (gAttr ct "words") := it_mk (ex_at T 8) (fi_Order___iter__ T) fun _ _ => rfl
def tbi_1 : TbI := (11, gAttr ct "words") :: []
theorem tbik_1 (T : TX K mg base) : TbIOk P w K mg base (cls K) 2 tbi_1 := tbi_cons (it_Order T) (by decide) tbi_nil
abbrev st_Order___getitem__ : Stmt := mS 17 7
abbrev N_Order___getitem__ : List Str := ["self", "index"]
theorem sc_Order___getitem__ : FnScope N_Order___getitem__ ["self", "index"] (defScope st_Order___getitem__) := ⟨rfl, rfl, rfl, by decide +kernel, rfl, by decide +kernel, by decide +kernel⟩
def e_Order___getitem__ : Sv := sSeq (sIf (tNotE (tBool (eApp (callG 3 g_is_between []) (eCons (eVar 1) (eCons (eC (.int 0)) (eCons (eOp hSub (eApp (hTbC tb_len_1 hOwnLen hLen) (eCons (eUn (hAttr ct "words") (eVar 0)) (eNil))) (eC (.int 1))) (eNil))))))) (sRaise 7 ["value"] (eCons (eVar 1) (eNil)))
    (sNext))
    (sRet (eOp hIx (eUn (hAttr ct "words") (eVar 0)) (eVar 1)))
def g_Order___getitem__ : List A → Store → Out A := defF 2 e_Order___getitem__
theorem okF_Order___getitem__ (T : TX K mg base) : FnF P w K mg base (cls K) 3 "__getitem__" "Order.__getitem__" (defArgs st_Order___getitem__) (defBody st_Order___getitem__) (defScope st_Order___getitem__) (He.ma K (cls K 11) "__getitem__") ["self", "index"] g_Order___getitem__ :=
  fnF_mk (N := N_Order___getitem__) (k := 2) (fb := e_Order___getitem__) (T.c.def_ 8) sc_Order___getitem__ fun cdv A outer s H E hr B =>
    (sss_cons (ss_if (st_not (st_val (se_fn (ok_is_between T) B (hr.mono (by decide)) (T.glo 13) (sa_cons (se_var 1) (sa_cons se_int (sa_cons (se_op o_sub (se_callBV (tv_len (tbk_len_1 T) B (hr.mono (by decide))) (T.free 7) (sa_cons (se_attr (ct_ok T) (se_var 0)) sa_nil)) se_int) sa_nil)))))) (sss_one (ss_raise (mk_BadCount T) B (hr.mono (by decide)) (T.glo 14) (sa_cons (se_var 1) sa_nil)))
      sss_nil)
      (sss_one (ss_ret (se_ix (se_attr (ct_ok T) (se_var 0)) (se_var 1)))))
theorem ok_Order___getitem__ (T : TX K mg base) : FnR P w K mg base (cls K) 3 (He.ma K (cls K 11) "__getitem__") ["self", "index"] g_Order___getitem__ := (okF_Order___getitem__ T).r (fun _ _ _ _ _ _ us hl => match us, hl with | [_, _], _ => rfl)
theorem mt_Order___getitem__ (T : TX K mg base) : MtR P w K mg base (cls K) 3 11 "__getitem__" (callG 2 g_Order___getitem__ []) := mt_mk (ct_ok T) ⟨by decide, rfl⟩ (ex_at T 9) (ok_Order___getitem__ T).v
def tb_getitem_1 : Tb := (11, (callG 2 g_Order___getitem__ [])) :: []
theorem tbk_getitem_1 (T : TX K mg base) : TbOk P w K mg base (cls K) ct 3 "__getitem__" tb_getitem_1 := tb_cons (mt_Order___getitem__ T) (owB_ok (ex_at T 3)) (by decide) tb_nil
abbrev st_Order___contains__ : Stmt := mS 17 8
abbrev N_Order___contains__ : List Str := ["self", "value"]
theorem sc_Order___contains__ : FnScope N_Order___contains__ ["self", "value"] (defScope st_Order___contains__) := ⟨rfl, rfl, rfl, by decide +kernel, rfl, by decide +kernel, by decide +kernel⟩
def e_Order___contains__ : Sv := sRet (eAndE (eApp (hIsI ct) (eCons (eVar 1) (eCons (eC (.ty "str")) (eNil)))) (eOp hIn (eVar 1) (eUn (hAttr ct "words") (eVar 0))))
def g_Order___contains__ : List A → Store → Out A := defF 2 e_Order___contains__
theorem okF_Order___contains__ (T : TX K mg base) : FnF P w K mg base (cls K) 1 "__contains__" "Order.__contains__" (defArgs st_Order___contains__) (defBody st_Order___contains__) (defScope st_Order___contains__) (He.ma K (cls K 11) "__contains__") ["self", "value"] g_Order___contains__ :=
  fnF_mk (N := N_Order___contains__) (k := 0) (fb := e_Order___contains__) (T.c.def_ 9) sc_Order___contains__ fun cdv A outer s H E hr B =>
    (sss_one (ss_ret (se_and (se_callB (b_isI (ct_ok T)) (T.free 2) (sa_cons (se_var 1) (sa_cons (se_ty (T.free 6)) sa_nil))) (se_one (se_cmp (o_in (room65 hr)) (se_var 1) (se_attr (ct_ok T) (se_var 0)))))))
theorem ok_Order___contains__ (T : TX K mg base) : FnR P w K mg base (cls K) 1 (He.ma K (cls K 11) "__contains__") ["self", "value"] g_Order___contains__ := (okF_Order___contains__ T).r (fun _ _ _ _ _ _ us hl => match us, hl with | [_, _], _ => rfl)
theorem mt_Order___contains__ (T : TX K mg base) : MtR P w K mg base (cls K) 1 11 "__contains__" (callG 2 g_Order___contains__ []) := mt_mk (ct_ok T) ⟨by decide, rfl⟩ (ex_at T 10) (ok_Order___contains__ T).v
def tb_contains_1 : Tb := (11, (callG 2 g_Order___contains__ [])) :: []
theorem tbk_contains_1 (T : TX K mg base) : TbOk P w K mg base (cls K) ct 1 "__contains__" tb_contains_1 := tb_cons (mt_Order___contains__ T) (owB_ok (ex_at T 3)) (by decide) tb_nil
abbrev st_Order___add__ : Stmt := mS 17 9
abbrev N_Order___add__ : List Str := ["self", "word", "words"]
theorem sc_Order___add__ : FnScope N_Order___add__ ["self", "word"] (defScope st_Order___add__) := ⟨rfl, rfl, rfl, by decide +kernel, rfl, by decide +kernel, by decide +kernel⟩
def e_Order___add__ : Sv := sSeq (sIf (tOrE (tNotE (tBool (eApp (callG 1 g_is_word []) (eCons (eVar 1) (eNil))))) (tBool (eOp (hTbR tb_contains_1 hOwnIn hIn) (eVar 1) (eUn (hAttr ct "words") (eVar 0))))) (sRaise 5 ["part"] (eCons (eC (.str "word")) (eNil)))
    (sNext))
    (sSeq (sSet 2 (eApp hLst (eStar (eUn (hAttr ct "words") (eVar 0)) (eCons (eVar 1) (eNil)))))
    (sRet (eApp (kMake 11 (starG 1 g_Order___init__)) (eStar (eVar 2) eNil))))
def g_Order___add__ : List A → Store → Out A := defF 3 e_Order___add__
theorem okF_Order___add__ (T : TX K mg base) : FnF P w K mg base (cls K) 5 "__add__" "Order.__add__" (defArgs st_Order___add__) (defBody st_Order___add__) (defScope st_Order___add__) (He.ma K (cls K 11) "__add__") ["self", "word"] g_Order___add__ :=
  fnF_mk (N := N_Order___add__) (k := 4) (fb := e_Order___add__) (T.c.def_ 10) sc_Order___add__ fun cdv A outer s H E hr B =>
    (sss_cons (ss_if (SW.pt (sw_or (st_not (st_val (se_fn (ok_is_word T) B (hr.mono (by decide)) (T.glo 10) (sa_cons (se_var 1) sa_nil)))) (sw_or1 (st_cmpV (tv_in (tbk_contains_1 T) B (hr.mono (by decide))) (se_var 1) (se_attr (ct_ok T) (se_var 0)))))) (sss_one (ss_raise (mk_BadOrder T) B (hr.mono (by decide)) (T.glo 8) (sa_cons se_str sa_nil)))
      sss_nil)
      (sss_cons (ss_set 2 sc_Order___add__.nd (se_lst (sa_star (se_attr (ct_ok T) (se_var 0)) (sa_cons (se_var 1) sa_nil))))
      (sss_one (ss_ret (se_makeS (ob_Order T) B (hr.mono (by decide)) (T.glo 5) (se_var 2))))))
theorem ok_Order___add__ (T : TX K mg base) : FnR P w K mg base (cls K) 5 (He.ma K (cls K 11) "__add__") ["self", "word"] g_Order___add__ := (okF_Order___add__ T).r (fun _ _ _ _ _ _ us hl => match us, hl with | [_, _], _ => rfl)
theorem mt_Order___add__ (T : TX K mg base) : MtR P w K mg base (cls K) 5 11 "__add__" (callG 2 g_Order___add__ []) := mt_mk (ct_ok T) ⟨by decide, rfl⟩ (ex_at T 11) (ok_Order___add__ T).v
def tb_add_1 : Tb := (11, (callG 2 g_Order___add__ [])) :: []
theorem tbk_add_1 (T : TX K mg base) : TbOk P w K mg base (cls K) ct 5 "__add__" tb_add_1 := tb_cons (mt_Order___add__ T) (owB_ok (ex_at T 3)) (by decide) tb_nil
abbrev st_Order___sub__ : Stmt := mS 17 10
abbrev N_Order___sub__ : List Str := ["self", "word", "words", "one"]
theorem sc_Order___sub__ : FnScope N_Order___sub__ ["self", "word"] (defScope st_Order___sub__) := ⟨rfl, rfl, rfl, by decide +kernel, rfl, by decide +kernel, by decide +kernel⟩
def e_Order___sub__ : Sv := sSeq (sSet 2 (eLc [3] (iSeq (eUn (hAttr ct "words") (eVar 0))) (gSet 3) (tBool (eOp (hTbL tb_eq_1 (hOwnNe ct) (hTbR tb_eq_1 hOwnNeS hNe)) (eVar 3) (eVar 1))) (eVar 3)))
    (sSeq (sIf (tOrE (tBool (eOp hEq (eApp (hTbC tb_len_1 hOwnLen hLen) (eCons (eVar 2) (eNil))) (eApp (hTbC tb_len_1 hOwnLen hLen) (eCons (eUn (hAttr ct "words") (eVar 0)) (eNil))))) (tBool (eOp (hTbL tb_eq_1 (hOwnCmp ct) hEq) (eVar 2) (eApp hLst (eNil))))) (sRaise 5 ["part"] (eCons (eC (.str "word")) (eNil)))
    (sNext))
    (sRet (eApp (kMake 11 (starG 1 g_Order___init__)) (eStar (eVar 2) eNil))))
def g_Order___sub__ : List A → Store → Out A := defF 4 e_Order___sub__
theorem okF_Order___sub__ (T : TX K mg base) : FnF P w K mg base (cls K) 5 "__sub__" "Order.__sub__" (defArgs st_Order___sub__) (defBody st_Order___sub__) (defScope st_Order___sub__) (He.ma K (cls K 11) "__sub__") ["self", "word"] g_Order___sub__ :=
  fnF_mk (N := N_Order___sub__) (k := 4) (fb := e_Order___sub__) (T.c.def_ 11) sc_Order___sub__ fun cdv A outer s H E hr B =>
    (sss_cons (ss_setLc 2 (own := [("one", 3)]) (g := gSet 3) (tt := tBool (eOp (hTbL tb_eq_1 (hOwnNe ct) (hTbR tb_eq_1 hOwnNeS hNe)) (eVar 3) (eVar 1))) (te := eVar 3) rfl sc_Order___sub__.nd (sw_true rfl rfl rfl (by decide +kernel)) (si_seq (se_attr (ct_ok T) (se_var 0))) (blkOk_by (own := [("one", 3)]) (N := N_Order___sub__) (sc := defScope st_Order___sub__) (by decide +kernel)) (fun _ _ _ _ _ => (gx_name 3 (by decide) sc_Order___sub__.nd)) (fun _ _ _ _ _ => (pts_st (st_cmpV (tv_ne2 (ne_of (cs := [11]) (ex_at T 12) rfl) (ss_of (cs := [11]) (ex_at T 13) rfl) (ct_ok T) (tbk_eq_1 T) (bx_blk B) (hr.mono (by decide))) (se_var 3) (se_var 1)))) (fun _ _ _ _ _ => (se_var 3)))
      (sss_cons (ss_if (SW.pt (sw_or (st_cmp (o_eq hr.units) (se_callBV (tv_len (tbk_len_1 T) B (hr.mono (by decide))) (T.free 7) (sa_cons (se_var 2) sa_nil)) (se_callBV (tv_len (tbk_len_1 T) B (hr.mono (by decide))) (T.free 7) (sa_cons (se_attr (ct_ok T) (se_var 0)) sa_nil))) (sw_or1 (st_cmpV (tv_eq (ct_ok T) (tbk_eq_1 T) B (hr.mono (by decide))) (se_var 2) (se_lst sa_nil))))) (sss_one (ss_raise (mk_BadOrder T) B (hr.mono (by decide)) (T.glo 8) (sa_cons se_str sa_nil)))
      sss_nil)
      (sss_one (ss_ret (se_makeS (ob_Order T) B (hr.mono (by decide)) (T.glo 5) (se_var 2))))))
theorem ok_Order___sub__ (T : TX K mg base) : FnR P w K mg base (cls K) 5 (He.ma K (cls K 11) "__sub__") ["self", "word"] g_Order___sub__ := (okF_Order___sub__ T).r (fun _ _ _ _ _ _ us hl => match us, hl with | [_, _], _ => rfl)
theorem mt_Order___sub__ (T : TX K mg base) : MtR P w K mg base (cls K) 5 11 "__sub__" (callG 2 g_Order___sub__ []) := mt_mk (ct_ok T) ⟨by decide, rfl⟩ (ex_at T 14) (ok_Order___sub__ T).v
def tb_sub_1 : Tb := (11, (callG 2 g_Order___sub__ [])) :: []
theorem tbk_sub_1 (T : TX K mg base) : TbOk P w K mg base (cls K) ct 5 "__sub__" tb_sub_1 := tb_cons (mt_Order___sub__ T) (owB_ok (ex_at T 3)) (by decide) tb_nil
abbrev st_Order___invert__ : Stmt := mS 17 11
abbrev N_Order___invert__ : List Str := ["self", "words"]
theorem sc_Order___invert__ : FnScope N_Order___invert__ ["self"] (defScope st_Order___invert__) := ⟨rfl, rfl, rfl, by decide +kernel, rfl, by decide +kernel, by decide +kernel⟩
def e_Order___invert__ : Sv := sSeq (sSet 1 (eUn hRev (eUn (hAttr ct "words") (eVar 0))))
    (sRet (eApp (kMake 11 (starG 1 g_Order___init__)) (eStar (eVar 1) eNil)))
def g_Order___invert__ : List A → Store → Out A := defF 2 e_Order___invert__
theorem okF_Order___invert__ (T : TX K mg base) : FnF P w K mg base (cls K) 5 "__invert__" "Order.__invert__" (defArgs st_Order___invert__) (defBody st_Order___invert__) (defScope st_Order___invert__) (He.ma K (cls K 11) "__invert__") ["self"] g_Order___invert__ :=
  fnF_mk (N := N_Order___invert__) (k := 4) (fb := e_Order___invert__) (T.c.def_ 12) sc_Order___invert__ fun cdv A outer s H E hr B =>
    (sss_cons (ss_set 1 sc_Order___invert__.nd (se_rev (se_attr (ct_ok T) (se_var 0))))
      (sss_one (ss_ret (se_makeS (ob_Order T) B (hr.mono (by decide)) (T.glo 5) (se_var 1)))))
theorem ok_Order___invert__ (T : TX K mg base) : FnR P w K mg base (cls K) 5 (He.ma K (cls K 11) "__invert__") ["self"] g_Order___invert__ := (okF_Order___invert__ T).r (fun _ _ _ _ _ _ us hl => match us, hl with | [_], _ => rfl)
theorem mt_Order___invert__ (T : TX K mg base) : MtR P w K mg base (cls K) 5 11 "__invert__" (callG 1 g_Order___invert__ []) := mt_mk (ct_ok T) ⟨by decide, rfl⟩ (ex_at T 15) (ok_Order___invert__ T).v
def tb_invert_1 : Tb := (11, (callG 1 g_Order___invert__ [])) :: []
theorem tbk_invert_1 (T : TX K mg base) : TbOk P w K mg base (cls K) ct 5 "__invert__" tb_invert_1 := tb_cons (mt_Order___invert__ T) (owB_ok (ex_at T 3)) (by decide) tb_nil
abbrev st_Order___str__ : Stmt := mS 17 13
abbrev N_Order___str__ : List Str := ["self"]
theorem sc_Order___str__ : FnScope N_Order___str__ ["self"] (defScope st_Order___str__) := ⟨rfl, rfl, rfl, by decide +kernel, rfl, by decide +kernel, by decide +kernel⟩
def e_Order___str__ : Sv := sRet (eBm "str" kJoin (eC (.str " ")) (eCons (eUn (hAttr ct "words") (eVar 0)) (eNil)))
def g_Order___str__ : List A → Store → Out A := defF 1 e_Order___str__
theorem okF_Order___str__ (T : TX K mg base) : FnF P w K mg base (cls K) 1 "__str__" "Order.__str__" (defArgs st_Order___str__) (defBody st_Order___str__) (defScope st_Order___str__) (He.ma K (cls K 11) "__str__") ["self"] g_Order___str__ :=
  fnF_mk (N := N_Order___str__) (k := 0) (fb := e_Order___str__) (T.c.def_ 13) sc_Order___str__ fun cdv A outer s H E hr B =>
    (sss_one (ss_ret (se_bm PySem.F.plainAttrs_str PySem.F.slot_str_join PySem.F.type_str_join m_join se_str (sa_cons (se_attr (ct_ok T) (se_var 0)) sa_nil))))
theorem ok_Order___str__ (T : TX K mg base) : FnR P w K mg base (cls K) 1 (He.ma K (cls K 11) "__str__") ["self"] g_Order___str__ := (okF_Order___str__ T).r (fun _ _ _ _ _ _ us hl => match us, hl with | [_], _ => rfl)
theorem mt_Order___str__ (T : TX K mg base) : MtR P w K mg base (cls K) 1 11 "__str__" (callG 1 g_Order___str__ []) := mt_mk (ct_ok T) ⟨by decide, rfl⟩ (ex_at T 16) (ok_Order___str__ T).v
def tb_str_1 : Tb := (11, (callG 1 g_Order___str__ [])) :: []
theorem tbk_str_1 (T : TX K mg base) : TbOk P w K mg base (cls K) ct 1 "__str__" tb_str_1 := tb_cons (mt_Order___str__ T) (owB_ok (ex_at T 3)) (by decide) tb_nil
abbrev st__law_pen : Stmt := topS 20
abbrev N__law_pen : List Str := ["_law_script"]
theorem sc__law_pen : FnScope N__law_pen ["_law_script"] (defScope st__law_pen) := ⟨rfl, rfl, rfl, by decide +kernel, rfl, by decide +kernel, by decide +kernel⟩
def e__law_pen : Sv := sRet (eApp hLstN (eCons (eApp hList (eCons (eSl (eVar 0) (oNone) (oSome (eC (.int 63)))) (eNil))) (eCons (eC (.int 0)) (eCons (eC (.int 0)) (eNil)))))
def g__law_pen : List A → Store → Out A := defF 1 e__law_pen
theorem okF__law_pen (T : TX K mg base) : FnF P w K mg base (cls K) 1 "_law_pen" "_law_pen" (defArgs st__law_pen) (defBody st__law_pen) (defScope st__law_pen) (He.fAd K ("_law_pen", none)) ["_law_script"] g__law_pen :=
  fnF_mk (N := N__law_pen) (k := 0) (fb := e__law_pen) (T.c.def_ 14) sc__law_pen fun cdv A outer s H E hr B =>
    (sss_one (ss_ret (se_lstN (sa_cons (se_callT b_list (T.free 15) (sa_cons (se_sl (se_var 0) so_none (so_some se_int)) sa_nil)) (sa_cons se_int (sa_cons se_int sa_nil))))))
theorem ok__law_pen (T : TX K mg base) : FnR P w K mg base (cls K) 1 (He.fAd K ("_law_pen", none)) ["_law_script"] g__law_pen := (okF__law_pen T).r (fun _ _ _ _ _ _ us hl => match us, hl with | [_], _ => rfl)
abbrev st__law_draw : Stmt := topS 21
abbrev N__law_draw : List Str := ["_law_pen_here", "_law_many", "_law_digit", "_law_turn", "_law_cell", "_law_great", "_law_mixed"]
theorem sc__law_draw : FnScope N__law_draw ["_law_pen_here", "_law_many"] (defScope st__law_draw) := ⟨rfl, rfl, rfl, by decide +kernel, rfl, by decide +kernel, by decide +kernel⟩
def e__law_draw : Sv := sSeq (sIf (tBool (eOp hGt (eOp hIx (eVar 0) (eC (.int 2))) (eC (.int 0)))) (sSeq (sSet 2 (eOp hMod (eApp hIntC (eCons (eOp hIx (eVar 0) (eC (.int 2))) (eNil))) (eVar 1)))
    (sSeq (sAsg (eOp hDiv (eApp hIntC (eCons (eOp hIx (eVar 0) (eC (.int 2))) (eNil))) (eVar 1)) (gItem (eVar 0) (eC (.int 2))))
    (sRet (eVar 2))))
    (sNext))
    (sSeq (sSet 3 (eOp hIx (eVar 0) (eC (.int 1))))
    (sSeq (sAsg (eOp hAdd (eVar 3) (eC (.int 1))) (gItem (eVar 0) (eC (.int 1))))
    (sSeq (sSet 4 (eOp hAdd (eOp hMulA (eC (.int 90031)) (eVar 3)) (eC (.int 1217))))
    (sSeq (sIf (tBool (eOp hNe (eOp hIx (eVar 0) (eC (.int 0))) (eApp hLst (eNil)))) (sSet 4 (eOp hIx (eOp hIx (eVar 0) (eC (.int 0))) (eOp hMod (eApp hIntC (eCons (eVar 3) (eNil))) (eApp hLen (eCons (eOp hIx (eVar 0) (eC (.int 0))) (eNil))))))
    (sNext))
    (sSeq (sIf (tAndE (tBool (eOp hLt (eVar 3) (eApp hLen (eCons (eOp hIx (eVar 0) (eC (.int 0))) (eNil))))) (tBool (eOp hGe (eApp hAbs (eCons (eVar 4) (eNil))) (eOp hPow (eC (.int 10)) (eC (.int 18)))))) (sSeq (sSet 5 (eOp hAdd (eOp hMulA (eC (.int 2)) (eOp hSub (eApp hAbs (eCons (eVar 4) (eNil))) (eOp hPow (eC (.int 10)) (eC (.int 18))))) (eApp hIntC (eCons (eOp hLt (eVar 4) (eC (.int 0))) (eNil)))))
    (sSeq (sAsg (eOp hDiv (eApp hIntC (eCons (eVar 5) (eNil))) (eVar 1)) (gItem (eVar 0) (eC (.int 2))))
    (sRet (eOp hMod (eApp hIntC (eCons (eVar 5) (eNil))) (eVar 1)))))
    (sNext))
    (sSeq (sSet 6 (eOp hMod (eApp hIntC (eCons (eOp hPow (eOp hAdd (eOp hAdd (eOp hMod (eApp hIntC (eCons (eVar 4) (eNil))) (eC (.int 2147483549))) (eOp hMulA (eC (.int 88007)) (eVar 3))) (eC (.int 3911))) (eC (.int 5))) (eNil))) (eC (.int 2147483647))))
    (sSeq (sSet 6 (eOp hMod (eApp hIntC (eCons (eOp hPow (eOp hAdd (eOp hAdd (eOp hMulA (eVar 6) (eOp hAdd (eOp hMulA (eC (.int 2)) (eVar 3)) (eC (.int 521)))) (eOp hMulA (eOp hMulA (eC (.int 61007)) (eVar 3)) (eVar 3))) (eC (.int 241))) (eC (.int 3))) (eNil))) (eC (.int 2147483563))))
    (sRet (eOp hMod (eApp hIntC (eCons (eOp hDiv (eVar 6) (eC (.int 32))) (eNil))) (eVar 1))))))))))
def g__law_draw : List A → Store → Out A := defF 7 e__law_draw
theorem okF__law_draw (T : TX K mg base) : FnF P w K mg base (cls K) 1 "_law_draw" "_law_draw" (defArgs st__law_draw) (defBody st__law_draw) (defScope st__law_draw) (He.fAd K ("_law_draw", none)) ["_law_pen_here", "_law_many"] g__law_draw :=
  fnF_mk (N := N__law_draw) (k := 0) (fb := e__law_draw) (T.c.def_ 15) sc__law_draw fun cdv A outer s H E hr B =>
    (sss_cons (ss_if (st_cmp o_gt (se_ix (se_var 0) se_int) se_int) (sss_cons (ss_set 2 sc__law_draw.nd (se_op o_mod (se_callT b_int (T.free 1) (sa_cons (se_ix (se_var 0) se_int) sa_nil)) (se_var 1)))
      (sss_cons (ss_asg (se_op o_div (se_callT b_int (T.free 1) (sa_cons (se_ix (se_var 0) se_int) sa_nil)) (se_var 1)) (sg_item (se_var 0) se_int))
      (sss_one (ss_ret (se_var 2)))))
      sss_nil)
      (sss_cons (ss_set 3 sc__law_draw.nd (se_ix (se_var 0) se_int))
      (sss_cons (ss_asg (se_op o_add (se_var 3) se_int) (sg_item (se_var 0) se_int))
      (sss_cons (ss_set 4 sc__law_draw.nd (se_op o_add (se_op o_mulA se_int (se_var 3)) se_int))
      (sss_cons (ss_if (st_cmp (o_ne hr.units) (se_ix (se_var 0) se_int) (se_lst sa_nil)) (sss_one (ss_set 4 sc__law_draw.nd (se_ix (se_ix (se_var 0) se_int) (se_op o_mod (se_callT b_int (T.free 1) (sa_cons (se_var 3) sa_nil)) (se_callB b_len (T.free 7) (sa_cons (se_ix (se_var 0) se_int) sa_nil))))))
      sss_nil)
      (sss_cons (ss_if (SW.pt (sw_and (st_cmp o_lt (se_var 3) (se_callB b_len (T.free 7) (sa_cons (se_ix (se_var 0) se_int) sa_nil))) (sw_and1 (st_cmp o_ge (se_callB b_abs (T.free 16) (sa_cons (se_var 4) sa_nil)) (se_op o_pow se_int se_int))))) (sss_cons (ss_set 5 sc__law_draw.nd (se_op o_add (se_op o_mulA se_int (se_op o_sub (se_callB b_abs (T.free 16) (sa_cons (se_var 4) sa_nil)) (se_op o_pow se_int se_int))) (se_callT b_int (T.free 1) (sa_cons (se_cmp o_lt (se_var 4) se_int) sa_nil))))
      (sss_cons (ss_asg (se_op o_div (se_callT b_int (T.free 1) (sa_cons (se_var 5) sa_nil)) (se_var 1)) (sg_item (se_var 0) se_int))
      (sss_one (ss_ret (se_op o_mod (se_callT b_int (T.free 1) (sa_cons (se_var 5) sa_nil)) (se_var 1))))))
      sss_nil)
      (sss_cons (ss_set 6 sc__law_draw.nd (se_op o_mod (se_callT b_int (T.free 1) (sa_cons (se_op o_pow (se_op o_add (se_op o_add (se_op o_mod (se_callT b_int (T.free 1) (sa_cons (se_var 4) sa_nil)) se_int) (se_op o_mulA se_int (se_var 3))) se_int) se_int) sa_nil)) se_int))
      (sss_cons (ss_set 6 sc__law_draw.nd (se_op o_mod (se_callT b_int (T.free 1) (sa_cons (se_op o_pow (se_op o_add (se_op o_add (se_op o_mulA (se_var 6) (se_op o_add (se_op o_mulA se_int (se_var 3)) se_int)) (se_op o_mulA (se_op o_mulA se_int (se_var 3)) (se_var 3))) se_int) se_int) sa_nil)) se_int))
      (sss_one (ss_ret (se_op o_mod (se_callT b_int (T.free 1) (sa_cons (se_op o_div (se_var 6) se_int) sa_nil)) (se_var 1))))))))))))
theorem ok__law_draw (T : TX K mg base) : FnR P w K mg base (cls K) 1 (He.fAd K ("_law_draw", none)) ["_law_pen_here", "_law_many"] g__law_draw := (okF__law_draw T).r (fun _ _ _ _ _ _ us hl => match us, hl with | [_, _], _ => rfl)
abbrev st__law_pick : Stmt := topS 22
abbrev N__law_pick : List Str := ["_law_pen_here", "_law_some"]
theorem sc__law_pick : FnScope N__law_pick ["_law_pen_here", "_law_some"] (defScope st__law_pick) := ⟨rfl, rfl, rfl, by decide +kernel, rfl, by decide +kernel, by decide +kernel⟩
def e__law_pick : Sv := sRet (eOp hIx (eVar 1) (eApp (callG 2 g__law_draw []) (eCons (eVar 0) (eCons (eApp hLen (eCons (eVar 1) (eNil))) (eNil)))))
def g__law_pick : List A → Store → Out A := defF 2 e__law_pick
theorem okF__law_pick (T : TX K mg base) : FnF P w K mg base (cls K) 2 "_law_pick" "_law_pick" (defArgs st__law_pick) (defBody st__law_pick) (defScope st__law_pick) (He.fAd K ("_law_pick", none)) ["_law_pen_here", "_law_some"] g__law_pick :=
  fnF_mk (N := N__law_pick) (k := 1) (fb := e__law_pick) (T.c.def_ 16) sc__law_pick fun cdv A outer s H E hr B =>
    (sss_one (ss_ret (se_ix (se_var 1) (se_fn (ok__law_draw T) B (hr.mono (by decide)) (T.glo 17) (sa_cons (se_var 0) (sa_cons (se_callB b_len (T.free 7) (sa_cons (se_var 1) sa_nil)) sa_nil))))))
theorem ok__law_pick (T : TX K mg base) : FnR P w K mg base (cls K) 2 (He.fAd K ("_law_pick", none)) ["_law_pen_here", "_law_some"] g__law_pick := (okF__law_pick T).r (fun _ _ _ _ _ _ us hl => match us, hl with | [_, _], _ => rfl)
abbrev st__law_heard : Stmt := topS 23
abbrev N__law_heard : List Str := ["_law_ask", "_law_caught", "_law_found", "error"]
theorem sc__law_heard : FnScope N__law_heard ["_law_ask"] (defScope st__law_heard) := ⟨rfl, rfl, rfl, by decide +kernel, rfl, by decide +kernel, by decide +kernel⟩
def e__law_heard (th : Store → Out A) : Sv := sSeq (sAsg (eApp hTup (eCons (eC .non) (eCons (eC .non) (eNil)))) (gTupE 2 (gMore (gSet 1) (gMore (gSet 2) (gNone)))))
    (sSeq (sTry ct 0 3 (sSet 2 (eThk 0 th)) (sSet 1 (eVar 3)))
    (sSeq (sIf (tBool (eOp hIsN (eVar 1) (eC .non))) (sRet (eApp hLst (eCons (eVar 2) (eNil))))
    (sNext))
    (sSeq (sIf (tBool (eApp (hIsI ct) (eCons (eVar 1) (eCons (eC (.cls 3)) (eNil))))) (sRet (eApp hTup (eCons (eC (.str "layout")) (eCons (eUn (hAttr ct "part") (eVar 1)) (eNil)))))
    (sNext))
    (sSeq (sIf (tBool (eApp (hIsI ct) (eCons (eVar 1) (eCons (eC (.cls 5)) (eNil))))) (sRet (eApp hTup (eCons (eC (.str "order")) (eCons (eApp hRepr (eCons (eUn (hAttr ct "part") (eVar 1)) (eNil))) (eNil)))))
    (sNext))
    (sSeq (sIf (tBool (eApp (hIsI ct) (eCons (eVar 1) (eCons (eC (.cls 6)) (eNil))))) (sRet (eApp hTup (eCons (eC (.str "place")) (eCons (eApp hRepr (eCons (eUn (hAttr ct "value") (eVar 1)) (eNil))) (eNil)))))
    (sNext))
    (sSeq (sIf (tBool (eApp (hIsI ct) (eCons (eVar 1) (eCons (eC (.cls 4)) (eNil))))) (sRet (eApp hTup (eCons (eC (.str "rule")) (eCons (eUn (hAttr ct "part") (eVar 1)) (eNil)))))
    (sNext))
    (sSeq (sIf (tBool (eApp (hIsI ct) (eCons (eVar 1) (eCons (eC (.cls 7)) (eNil))))) (sRet (eApp hTup (eCons (eC (.str "count")) (eCons (eApp hRepr (eCons (eUn (hAttr ct "value") (eVar 1)) (eNil))) (eNil)))))
    (sNext))
    (sSeq (sIf (tBool (eApp (hIsI ct) (eCons (eVar 1) (eCons (eC (.cls 9)) (eNil))))) (sRet (eApp hTup (eCons (eUn (hAttr ct "what") (eVar 1)) (eCons (eUn (hAttr ct "most") (eVar 1)) (eNil)))))
    (sNext))
    (sSeq (sIf (tBool (eApp (hIsI ct) (eCons (eVar 1) (eCons (eC (.cls 8)) (eNil))))) (sRet (eApp hTup (eCons (eC (.str "text")) (eCons (eUn (hAttr ct "line") (eVar 1)) (eCons (eUn (hAttr ct "word") (eVar 1)) (eNil))))))
    (sNext))
    (sRet (eIfE (tBool (eApp (hIsI ct) (eCons (eVar 1) (eCons (eC (.cls 10)) (eNil))))) (eC (.str "torn")) (eC (.str "odd")))))))))))))
theorem ci__law_heard (T : TX K mg base) : CallsIt P w K mg base (cls K) 0 "_law_heard" "_law_ask" (He.ga K "_law_heard") (defScope st__law_heard) N__law_heard (defBody st__law_heard) e__law_heard := fun kn ka fvs th cdv A outer s H E hr B hcall =>
    (sss_cons (ss_asg (se_tup (sa_cons se_non (sa_cons se_non sa_nil))) (sg_tup (sgs_cons (sg_name 1 sc__law_heard.nd) (sgs_cons (sg_name 2 sc__law_heard.nd) sgs_nil (fun _ _ _ _ _ z => z)) (fun _ _ _ _ _ z => z))))
      (sss_cons (ss_try (h := 0) ((ct_ok T).lam kn ka fvs) B 3 sc__law_heard.nd (T.glo 18) (fun W' pn xe B => (sss_one (ss_set 2 sc__law_heard.nd (hcall _ _ pn xe W' B)))) (fun a pn B => (sss_one (ss_set 1 sc__law_heard.nd (se_var 3)))))
      (sss_cons (ss_if (st_cmp o_isN (se_var 1) se_non) (sss_one (ss_ret (se_lst (sa_cons (se_var 2) sa_nil))))
      sss_nil)
      (sss_cons (ss_if (st_val (se_callB (b_isI ((ct_ok T).lam kn ka fvs)) (T.free 2) (sa_cons (se_var 1) (sa_cons (se_cls (c := 3) (T.glo 19)) sa_nil)))) (sss_one (ss_ret (se_tup (sa_cons se_str (sa_cons (se_attr ((ct_ok T).lam kn ka fvs) (se_var 1)) sa_nil)))))
      sss_nil)
      (sss_cons (ss_if (st_val (se_callB (b_isI ((ct_ok T).lam kn ka fvs)) (T.free 2) (sa_cons (se_var 1) (sa_cons (se_cls (c := 5) (T.glo 8)) sa_nil)))) (sss_one (ss_ret (se_tup (sa_cons se_str (sa_cons (se_callB (b_repr B.gd hr.units) (T.free 20) (sa_cons (se_attr ((ct_ok T).lam kn ka fvs) (se_var 1)) sa_nil)) sa_nil)))))
      sss_nil)
      (sss_cons (ss_if (st_val (se_callB (b_isI ((ct_ok T).lam kn ka fvs)) (T.free 2) (sa_cons (se_var 1) (sa_cons (se_cls (c := 6) (T.glo 21)) sa_nil)))) (sss_one (ss_ret (se_tup (sa_cons se_str (sa_cons (se_callB (b_repr B.gd hr.units) (T.free 20) (sa_cons (se_attr ((ct_ok T).lam kn ka fvs) (se_var 1)) sa_nil)) sa_nil)))))
      sss_nil)
      (sss_cons (ss_if (st_val (se_callB (b_isI ((ct_ok T).lam kn ka fvs)) (T.free 2) (sa_cons (se_var 1) (sa_cons (se_cls (c := 4) (T.glo 22)) sa_nil)))) (sss_one (ss_ret (se_tup (sa_cons se_str (sa_cons (se_attr ((ct_ok T).lam kn ka fvs) (se_var 1)) sa_nil)))))
      sss_nil)
      (sss_cons (ss_if (st_val (se_callB (b_isI ((ct_ok T).lam kn ka fvs)) (T.free 2) (sa_cons (se_var 1) (sa_cons (se_cls (c := 7) (T.glo 14)) sa_nil)))) (sss_one (ss_ret (se_tup (sa_cons se_str (sa_cons (se_callB (b_repr B.gd hr.units) (T.free 20) (sa_cons (se_attr ((ct_ok T).lam kn ka fvs) (se_var 1)) sa_nil)) sa_nil)))))
      sss_nil)
      (sss_cons (ss_if (st_val (se_callB (b_isI ((ct_ok T).lam kn ka fvs)) (T.free 2) (sa_cons (se_var 1) (sa_cons (se_cls (c := 9) (T.glo 23)) sa_nil)))) (sss_one (ss_ret (se_tup (sa_cons (se_attr ((ct_ok T).lam kn ka fvs) (se_var 1)) (sa_cons (se_attr ((ct_ok T).lam kn ka fvs) (se_var 1)) sa_nil)))))
      sss_nil)
      (sss_cons (ss_if (st_val (se_callB (b_isI ((ct_ok T).lam kn ka fvs)) (T.free 2) (sa_cons (se_var 1) (sa_cons (se_cls (c := 8) (T.glo 11)) sa_nil)))) (sss_one (ss_ret (se_tup (sa_cons se_str (sa_cons (se_attr ((ct_ok T).lam kn ka fvs) (se_var 1)) (sa_cons (se_attr ((ct_ok T).lam kn ka fvs) (se_var 1)) sa_nil))))))
      sss_nil)
      (sss_one (ss_ret (se_if (st_val (se_callB (b_isI ((ct_ok T).lam kn ka fvs)) (T.free 2) (sa_cons (se_var 1) (sa_cons (se_cls (c := 10) (T.glo 24)) sa_nil)))) se_str se_str)))))))))))))
abbrev st__law_all : Stmt := topS 24
abbrev N__law_all : List Str := []
theorem sc__law_all : FnScope N__law_all [] (defScope st__law_all) := ⟨rfl, rfl, rfl, by decide +kernel, rfl, by decide +kernel, by decide +kernel⟩
def e__law_all : Sv := sRet (eApp hLstN (eCons (eC (.str "block")) (eCons (eC (.str "page")) (eCons (eC (.str "cell")) (eCons (eC (.str "bucket")) (eCons (eC (.str "parity")) (eNil)))))))
def g__law_all : List A → Store → Out A := defF 0 e__law_all
theorem okF__law_all (T : TX K mg base) : FnF P w K mg base (cls K) 1 "_law_all" "_law_all" (defArgs st__law_all) (defBody st__law_all) (defScope st__law_all) (He.fAd K ("_law_all", none)) [] g__law_all :=
  fnF_mk (N := N__law_all) (k := 0) (fb := e__law_all) (T.c.def_ 18) sc__law_all fun cdv A outer s H E hr B =>
    (sss_one (ss_ret (se_lstN (sa_cons se_str (sa_cons se_str (sa_cons se_str (sa_cons se_str (sa_cons se_str sa_nil))))))))
theorem ok__law_all (T : TX K mg base) : FnR P w K mg base (cls K) 1 (He.fAd K ("_law_all", none)) [] g__law_all := (okF__law_all T).r (fun _ _ _ _ _ _ us hl => match us, hl with | [], _ => rfl)
abbrev st__law_words : Stmt := topS 25
abbrev N__law_words : List Str := ["_law_pen_here", "_law_left", "_law_turn"]
theorem sc__law_words : FnScope N__law_words ["_law_pen_here"] (defScope st__law_words) := ⟨rfl, rfl, rfl, by decide +kernel, rfl, by decide +kernel, by decide +kernel⟩
def e__law_words_0 : Sv := sSet 1 (eApp (callG 0 g__law_all []) eNil)
def e__law_words_1 : Sv := sRet (eLc [2] (iRange1 (eCons (eOp hAdd (eC (.int 1)) (eApp (callG 2 g__law_draw []) (eCons (eVar 0) (eCons (eC (.int 5)) (eNil))))) (eNil))) (gSet 2) (tYesE) (eBm "list" kPop (eVar 1) (eCons (eApp (callG 2 g__law_draw []) (eCons (eVar 0) (eCons (eApp (hTbC tb_len_1 hOwnLen hLen) (eCons (eVar 1) (eNil))) (eNil)))) (eNil))))
def e__law_words : Sv := sSeq e__law_words_0 (e__law_words_1)
def g__law_words : List A → Store → Out A := defF 3 e__law_words
theorem okF__law_words (T : TX K mg base) : FnF P w K mg base (cls K) 3 "_law_words" "_law_words" (defArgs st__law_words) (defBody st__law_words) (defScope st__law_words) (He.fAd K ("_law_words", none)) ["_law_pen_here"] g__law_words :=
  fnF_mk (N := N__law_words) (k := 2) (fb := e__law_words) (T.c.def_ 19) sc__law_words fun cdv A outer s H E hr B =>
    (sss_cons (ss_set 1 sc__law_words.nd (se_fn0 (ok__law_all T) B (hr.mono (by decide)) (T.glo 25)))
      (sss_one (ss_ret (se_lc (own := [("_law_turn", 2)]) (g := gSet 2) (tt := tYesE) (te := eBm "list" kPop (eVar 1) (eCons (eApp (callG 2 g__law_draw []) (eCons (eVar 0) (eCons (eApp (hTbC tb_len_1 hOwnLen hLen) (eCons (eVar 1) (eNil))) (eNil)))) (eNil))) rfl sc__law_words.nd (si_range1 (sa_cons (se_op o_add se_int (se_fn (ok__law_draw T) B (hr.mono (by decide)) (T.glo 17) (sa_cons (se_var 0) (sa_cons se_int sa_nil)))) sa_nil) (T.free 26)) (blkOk_by (own := [("_law_turn", 2)]) (N := N__law_words) (sc := defScope st__law_words) (by decide +kernel)) (fun _ _ _ _ _ => (gx_name 2 (by decide) sc__law_words.nd)) (fun _ _ _ _ _ => pts_none) (fun _ _ _ _ _ => (se_bm PySem.F.plainAttrs_list PySem.F.slot_list_pop PySem.F.type_list_pop m_pop (se_var 1) (sa_cons (se_fn (ok__law_draw T) (bx_blk B) (hr.mono (by decide)) (T.glo 17) (sa_cons (se_var 0) (sa_cons (se_callBV (tv_len (tbk_len_1 T) (bx_blk B) (hr.mono (by decide))) (T.free 7) (sa_cons (se_var 1) sa_nil)) sa_nil))) sa_nil)))))))
theorem ok__law_words (T : TX K mg base) : FnR P w K mg base (cls K) 3 (He.fAd K ("_law_words", none)) ["_law_pen_here"] g__law_words := (okF__law_words T).r (fun _ _ _ _ _ _ us hl => match us, hl with | [_], _ => rfl)
abbrev st__law_made : Stmt := topS 26
abbrev N__law_made : List Str := ["_law_words_here", "_law_one", "_law_two", "_law_three", "_law_four", "_law_five"]
theorem sc__law_made : FnScope N__law_made ["_law_words_here"] (defScope st__law_made) := ⟨rfl, rfl, rfl, by decide +kernel, rfl, by decide +kernel, by decide +kernel⟩
def e__law_made_0 : Sv := sAsg (eSlA (eOp (hTbL tb_add_1 (hOwnB ct) hAdd) (eVar 0) (eOp hMulA (eApp hLst (eCons (eC .non) (eNil))) (eC (.int 5)))) (oNone) (oSome (eC (.int 5)))) (gUnlE 5 (gMore (gSet 1) (gMore (gSet 2) (gMore (gSet 3) (gMore (gSet 4) (gMore (gSet 5) (gNone)))))))
def e__law_made_1 : Sv := sIf (tBool (eOp hLt (eApp (hTbC tb_len_1 hOwnLen hLen) (eCons (eVar 0) (eNil))) (eC (.int 3)))) (sRet (eIfE (tBool (eOp hEq (eApp (hTbC tb_len_1 hOwnLen hLen) (eCons (eVar 0) (eNil))) (eC (.int 1)))) (eApp (kMake 11 (starG 1 g_Order___init__)) (eCons (eVar 1) (eNil))) (eApp (kMake 11 (starG 1 g_Order___init__)) (eCons (eVar 1) (eCons (eVar 2) (eNil))))))
    (sNext)
def e__law_made_2 : Sv := sIf (tBool (eOp hEq (eApp (hTbC tb_len_1 hOwnLen hLen) (eCons (eVar 0) (eNil))) (eC (.int 3)))) (sRet (eApp (kMake 11 (starG 1 g_Order___init__)) (eCons (eVar 1) (eCons (eVar 2) (eCons (eVar 3) (eNil))))))
    (sNext)
def e__law_made_3 : Sv := sRet (eIfE (tBool (eOp hEq (eApp (hTbC tb_len_1 hOwnLen hLen) (eCons (eVar 0) (eNil))) (eC (.int 4)))) (eApp (kMake 11 (starG 1 g_Order___init__)) (eCons (eVar 1) (eCons (eVar 2) (eCons (eVar 3) (eCons (eVar 4) (eNil)))))) (eApp (kMake 11 (starG 1 g_Order___init__)) (eCons (eVar 1) (eCons (eVar 2) (eCons (eVar 3) (eCons (eVar 4) (eCons (eVar 5) (eNil))))))))
def e__law_made : Sv := sSeq e__law_made_0 (sSeq e__law_made_1 (sSeq e__law_made_2 (e__law_made_3)))
def g__law_made : List A → Store → Out A := defF 6 e__law_made
theorem okF__law_made (T : TX K mg base) : FnF P w K mg base (cls K) 6 "_law_made" "_law_made" (defArgs st__law_made) (defBody st__law_made) (defScope st__law_made) (He.fAd K ("_law_made", none)) ["_law_words_here"] g__law_made :=
  fnF_mk (N := N__law_made) (k := 5) (fb := e__law_made) (T.c.def_ 20) sc__law_made fun cdv A outer s H E hr B =>
    (sss_cons (ss_asg (se_slA (se_opV (tv_bin (op := .Add) opN_add (opT_ok (ex_at T 17)) (ct_ok T) (opV_of o_add) (tbk_add_1 T) B (hr.mono (by decide))) (se_var 0) (se_op o_mulA (se_lst (sa_cons se_non sa_nil)) se_int)) so_none (so_some se_int)) (sg_unl (sgs_cons (sg_name 1 sc__law_made.nd) (sgs_cons (sg_name 2 sc__law_made.nd) (sgs_cons (sg_name 3 sc__law_made.nd) (sgs_cons (sg_name 4 sc__law_made.nd) (sgs_cons (sg_name 5 sc__law_made.nd) sgs_nil (fun _ _ _ _ _ z => z)) (fun _ _ _ _ _ z => z)) (fun _ _ _ _ _ z => z)) (fun _ _ _ _ _ z => z)) (fun _ _ _ _ _ z => z))))
      (sss_cons (ss_if (st_cmp o_lt (se_callBV (tv_len (tbk_len_1 T) B (hr.mono (by decide))) (T.free 7) (sa_cons (se_var 0) sa_nil)) se_int) (sss_one (ss_ret (se_if (st_cmp (o_eq hr.units) (se_callBV (tv_len (tbk_len_1 T) B (hr.mono (by decide))) (T.free 7) (sa_cons (se_var 0) sa_nil)) se_int) (se_make (ob_Order T) B (hr.mono (by decide)) (T.glo 5) (sa_cons (se_var 1) sa_nil)) (se_make (ob_Order T) B (hr.mono (by decide)) (T.glo 5) (sa_cons (se_var 1) (sa_cons (se_var 2) sa_nil))))))
      sss_nil)
      (sss_cons (ss_if (st_cmp (o_eq hr.units) (se_callBV (tv_len (tbk_len_1 T) B (hr.mono (by decide))) (T.free 7) (sa_cons (se_var 0) sa_nil)) se_int) (sss_one (ss_ret (se_make (ob_Order T) B (hr.mono (by decide)) (T.glo 5) (sa_cons (se_var 1) (sa_cons (se_var 2) (sa_cons (se_var 3) sa_nil))))))
      sss_nil)
      (sss_one (ss_ret (se_if (st_cmp (o_eq hr.units) (se_callBV (tv_len (tbk_len_1 T) B (hr.mono (by decide))) (T.free 7) (sa_cons (se_var 0) sa_nil)) se_int) (se_make (ob_Order T) B (hr.mono (by decide)) (T.glo 5) (sa_cons (se_var 1) (sa_cons (se_var 2) (sa_cons (se_var 3) (sa_cons (se_var 4) sa_nil))))) (se_make (ob_Order T) B (hr.mono (by decide)) (T.glo 5) (sa_cons (se_var 1) (sa_cons (se_var 2) (sa_cons (se_var 3) (sa_cons (se_var 4) (sa_cons (se_var 5) sa_nil))))))))))))
theorem ok__law_made (T : TX K mg base) : FnR P w K mg base (cls K) 6 (He.fAd K ("_law_made", none)) ["_law_words_here"] g__law_made := (okF__law_made T).r (fun _ _ _ _ _ _ us hl => match us, hl with | [_], _ => rfl)
abbrev st__law_is : Stmt := topS 27
abbrev N__law_is : List Str := ["_law_made_here", "_law_words_here", "_law_word", "_law_at", "_law_odd"]
theorem sc__law_is : FnScope N__law_is ["_law_made_here", "_law_words_here"] (defScope st__law_is) := ⟨rfl, rfl, rfl, by decide +kernel, rfl, by decide +kernel, by decide +kernel⟩
def e__law_is_0 : Sv := sIf (tOrE (tBool (eOp (hTbL tb_eq_1 (hOwnNe ct) hNe) (eUn (hAttr ct "words") (eVar 0)) (eApp hTuple (eCons (eVar 1) (eNil))))) (tOrE (tBool (eOp hNe (eApp (hTbC tb_len_1 hOwnLen hLen) (eCons (eVar 0) (eNil))) (eApp (hTbC tb_len_1 hOwnLen hLen) (eCons (eVar 1) (eNil))))) (tOrE (tBool (eOp hNe (eLc [2] (iSeqT tbi_1 (eVar 0)) (gSet 2) (tYesE) (eVar 2)) (eVar 1))) (tNotE (tTru (hTruT [] tb_len_1) (eVar 0)))))) (sRet (eC (.bl false)))
    (sNext)
def e__law_is_1 : Sv := sIf (tOrE (tBool (eOp hNe (eLc [3] (iRange1 (eCons (eApp (hTbC tb_len_1 hOwnLen hLen) (eCons (eVar 1) (eNil))) (eNil))) (gSet 3) (tYesE) (eOp (hTbL tb_getitem_1 hOwnIx hIx) (eVar 0) (eVar 3))) (eVar 1))) (tBool (eOp hNe (eApp (hTbC tb_str_1 hOwnStr hStrC) (eCons (eVar 0) (eNil))) (eBm "str" kJoin (eC (.str " ")) (eCons (eVar 1) (eNil)))))) (sRet (eC (.bl false)))
    (sNext)
def e__law_is_2 : Sv := sIf (tBool (eOp hNe (eLc [2] (iSeq (eFrz (eApp (callG 0 g__law_all []) eNil))) (gSet 2) (tBool (eOp hNe (eOp (hTbR tb_contains_1 hOwnIn hIn) (eVar 2) (eVar 0)) (eOp (hTbR tb_contains_1 hOwnIn hIn) (eVar 2) (eVar 1)))) (eVar 2)) (eApp hLst (eNil)))) (sRet (eC (.bl false)))
    (sNext)
def e__law_is_3 : Sv := sRet (eOp hEq (eLc [4] (iSeq (eApp hLst (eCons (eC .non) (eCons (eC (.int 0)) (eCons (eC (.bl true)) (eCons (eC (.str "")) (eCons (eC (.str "blocks")) (eCons (eApp hTup (eCons (eC (.str "block")) (eNil))) (eCons (eApp hLst (eCons (eC (.str "page")) (eNil))) (eCons (eFrz eDnewN) (eNil))))))))))) (gSet 4) (tBool (eOp (hTbR tb_contains_1 hOwnIn hIn) (eVar 4) (eVar 0))) (eVar 4)) (eApp hLst (eNil)))
def e__law_is : Sv := sSeq e__law_is_0 (sSeq e__law_is_1 (sSeq e__law_is_2 (e__law_is_3)))
def g__law_is : List A → Store → Out A := defF 5 e__law_is
theorem okF__law_is (T : TX K mg base) : FnF P w K mg base (cls K) 5 "_law_is" "_law_is" (defArgs st__law_is) (defBody st__law_is) (defScope st__law_is) (He.fAd K ("_law_is", none)) ["_law_made_here", "_law_words_here"] g__law_is :=
  fnF_mk (N := N__law_is) (k := 4) (fb := e__law_is) (T.c.def_ 21) sc__law_is fun cdv A outer s H E hr B =>
    (sss_cons (ss_if (SW.pt (sw_or (st_cmpV (tv_ne (ne_of (cs := [11]) (ex_at T 12) rfl) (ct_ok T) (tbk_eq_1 T) B (hr.mono (by decide))) (se_attr (ct_ok T) (se_var 0)) (se_callT b_tuple (T.free 27) (sa_cons (se_var 1) sa_nil))) (sw_or (st_cmp (o_ne hr.units) (se_callBV (tv_len (tbk_len_1 T) B (hr.mono (by decide))) (T.free 7) (sa_cons (se_var 0) sa_nil)) (se_callBV (tv_len (tbk_len_1 T) B (hr.mono (by decide))) (T.free 7) (sa_cons (se_var 1) sa_nil))) (sw_or (st_cmp (o_ne hr.units) (se_lc (own := [("_law_word", 2)]) (g := gSet 2) (tt := tYesE) (te := eVar 2) rfl sc__law_is.nd (si_seqT (tbik_1 T) B (hr.mono (by decide)) (se_var 0)) (blkOk_by (own := [("_law_word", 2)]) (N := N__law_is) (sc := defScope st__law_is) (by decide +kernel)) (fun _ _ _ _ _ => (gx_name 2 (by decide) sc__law_is.nd)) (fun _ _ _ _ _ => pts_none) (fun _ _ _ _ _ => (se_var 2))) (se_var 1)) (sw_or1 (st_not (st_tru (tv_tru (k := 1) (t := ct) (tbB := []) (tbL := tb_len_1) tb_nil ((tbk_len_1 T).mono (by decide)) (lack_of (cs := [11]) (ex_at T 18) (by decide)) B (hr.mono (by decide))) (se_var 0)))))))) (sss_one (ss_ret se_bl))
      sss_nil)
      (sss_cons (ss_if (SW.pt (sw_or (st_cmp (o_ne hr.units) (se_lc (own := [("_law_at", 3)]) (g := gSet 3) (tt := tYesE) (te := eOp (hTbL tb_getitem_1 hOwnIx hIx) (eVar 0) (eVar 3)) rfl sc__law_is.nd (si_range1 (sa_cons (se_callBV (tv_len (tbk_len_1 T) B (hr.mono (by decide))) (T.free 7) (sa_cons (se_var 1) sa_nil)) sa_nil) (T.free 26)) (blkOk_by (own := [("_law_at", 3)]) (N := N__law_is) (sc := defScope st__law_is) (by decide +kernel)) (fun _ _ _ _ _ => (gx_name 3 (by decide) sc__law_is.nd)) (fun _ _ _ _ _ => pts_none) (fun _ _ _ _ _ => (se_ixV (tv_ix (fn_of (cs := [11]) (ex_at T 19) rfl) (tbk_getitem_1 T) (bx_blk B) (hr.mono (by decide)) (by intro _ _; rfl) (by intro _ _; rfl)) (se_var 0) (se_var 3)))) (se_var 1)) (sw_or1 (st_cmp (o_ne hr.units) (se_callTV (tv_str (tbk_str_1 T) B (hr.mono (by decide))) (T.free 6) (sa_cons (se_var 0) sa_nil)) (se_bm PySem.F.plainAttrs_str PySem.F.slot_str_join PySem.F.type_str_join m_join se_str (sa_cons (se_var 1) sa_nil)))))) (sss_one (ss_ret se_bl))
      sss_nil)
      (sss_cons (ss_if (st_cmp (o_ne hr.units) (se_lc (own := [("_law_word", 2)]) (g := gSet 2) (tt := tBool (eOp hNe (eOp (hTbR tb_contains_1 hOwnIn hIn) (eVar 2) (eVar 0)) (eOp (hTbR tb_contains_1 hOwnIn hIn) (eVar 2) (eVar 1)))) (te := eVar 2) rfl sc__law_is.nd (si_seq (se_frz (se_fn0 (ok__law_all T) B (hr.mono (by decide)) (T.glo 25)))) (blkOk_by (own := [("_law_word", 2)]) (N := N__law_is) (sc := defScope st__law_is) (by decide +kernel)) (fun _ _ _ _ _ => (gx_name 2 (by decide) sc__law_is.nd)) (fun _ _ _ _ _ => (pts_st (st_cmp (o_ne hr.units) (se_cmpV (tv_in (tbk_contains_1 T) (bx_blk B) (hr.mono (by decide))) (se_var 2) (se_var 0)) (se_cmpV (tv_in (tbk_contains_1 T) (bx_blk B) (hr.mono (by decide))) (se_var 2) (se_var 1))))) (fun _ _ _ _ _ => (se_var 2))) (se_lst sa_nil)) (sss_one (ss_ret se_bl))
      sss_nil)
      (sss_one (ss_ret (se_cmp (o_eq hr.units) (se_lc (own := [("_law_odd", 4)]) (g := gSet 4) (tt := tBool (eOp (hTbR tb_contains_1 hOwnIn hIn) (eVar 4) (eVar 0))) (te := eVar 4) rfl sc__law_is.nd (si_seq (se_lst (sa_cons se_non (sa_cons se_int (sa_cons se_bl (sa_cons se_str (sa_cons se_str (sa_cons (se_tup (sa_cons se_str sa_nil)) (sa_cons (se_lst (sa_cons se_str sa_nil)) (sa_cons (se_frz se_dnewN) sa_nil)))))))))) (blkOk_by (own := [("_law_odd", 4)]) (N := N__law_is) (sc := defScope st__law_is) (by decide +kernel)) (fun _ _ _ _ _ => (gx_name 4 (by decide) sc__law_is.nd)) (fun _ _ _ _ _ => (pts_st (st_cmpV (tv_in (tbk_contains_1 T) (bx_blk B) (hr.mono (by decide))) (se_var 4) (se_var 0)))) (fun _ _ _ _ _ => (se_var 4))) (se_lst sa_nil)))))))
theorem ok__law_is (T : TX K mg base) : FnR P w K mg base (cls K) 5 (He.fAd K ("_law_is", none)) ["_law_made_here", "_law_words_here"] g__law_is := (okF__law_is T).r (fun _ _ _ _ _ _ us hl => match us, hl with | [_, _], _ => rfl)
abbrev st__law_signs_right : Stmt := topS 28
abbrev N__law_signs_right : List Str := ["_law_pen_here", "_law_words_here", "_law_made_here", "_law_left", "_law_held", "_law_word", "_law_taken", "_law_rest", "_law_odd", "_law_heard_here"]
theorem sc__law_signs_right : FnScope N__law_signs_right ["_law_pen_here", "_law_words_here"] (defScope st__law_signs_right) := ⟨rfl, rfl, rfl, by decide +kernel, rfl, by decide +kernel, by decide +kernel⟩
def e__law_signs_right_0 : Sv := sAsg (eApp hTup (eCons (eApp (callG 1 g__law_made []) (eCons (eVar 1) (eNil))) (eCons (eLc [5] (iSeq (eFrz (eApp (callG 0 g__law_all []) eNil))) (gSet 5) (tBool (eOp hNotIn (eVar 5) (eVar 1))) (eVar 5)) (eNil)))) (gTupE 2 (gMore (gSet 2) (gMore (gSet 3) (gNone))))
def e__law_signs_right_1 : Sv := sIf (tOrE (tNotE (tBool (eApp (callG 2 g__law_is []) (eCons (eUn (hTbU tb_invert_1 hOwnUn fun _ _ => .bad) (eVar 2)) (eCons (eUn hRev (eVar 1)) (eNil)))))) (tOrE (tNotE (tBool (eApp (callG 2 g__law_is []) (eCons (eVar 2) (eCons (eVar 1) (eNil)))))) (tBool (eOp (hTbL tb_eq_1 (hOwnNe ct) hNe) (eUn (hTbU tb_invert_1 hOwnUn fun _ _ => .bad) (eUn (hTbU tb_invert_1 hOwnUn fun _ _ => .bad) (eVar 2))) (eVar 2))))) (sRet (eC (.bl false)))
    (sNext)
def e__law_signs_right_2 : Sv := sSet 4 (eVar 2)
def e__law_signs_right_3 : Sv := sFor (iSeqT tbi_1 (eVar 3)) (gSet 5)
    (sSeq (sAug 4 (hTbL tb_add_1 (hOwnB ct) (hInt yes2 fun i j => .int (i + j))) (eVar 5))
    (sIf (tNotE (tBool (eApp (callG 2 g__law_is []) (eCons (eVar 4) (eCons (eOp hAdd (eApp hList (eCons (eVar 1) (eNil))) (eSlA (eVar 3) (oNone) (oSome (eOp (hTbL tb_add_1 (hOwnB ct) hAdd) (eBm "list" kIndex (eVar 3) (eCons (eVar 5) (eNil))) (eC (.int 1)))))) (eNil)))))) (sRet (eC (.bl false)))
    (sNext)))
def e__law_signs_right_4 : Sv := sSet 6 (eApp (callG 2 g__law_pick []) (eCons (eVar 0) (eCons (eVar 1) (eNil))))
def e__law_signs_right_5 : Sv := sSet 7 (eLc [5] (iSeqT tbi_1 (eVar 1)) (gSet 5) (tBool (eOp (hTbL tb_eq_1 (hOwnNe ct) hNe) (eVar 5) (eVar 6))) (eVar 5))
def e__law_signs_right_6 : Sv := sIf (tAndE (tBool (eOp (hTbL tb_eq_1 (hOwnNe ct) hNe) (eVar 7) (eApp hLst (eNil)))) (tNotE (tBool (eApp (callG 2 g__law_is []) (eCons (eOp (hTbL tb_sub_1 (hOwnB ct) hSub) (eVar 2) (eVar 6)) (eCons (eVar 7) (eNil))))))) (sRet (eC (.bl false)))
    (sNext)
def e__law_signs_right_7 : Sv := sIf (tAndE (tBool (eOp (hTbL tb_eq_1 (hOwnCmp ct) hEq) (eVar 7) (eApp hLst (eNil)))) (tBool (eOp (hTbL tb_eq_1 (hOwnNe ct) hNe) (eLam 4 e__law_heard (eOp (hTbL tb_sub_1 (hOwnB ct) hSub) (eVar 2) (eVar 6))) (eApp hTup (eCons (eC (.str "order")) (eCons (eC (.str "'word'")) (eNil))))))) (sRet (eC (.bl false)))
    (sNext)
def e__law_signs_right_8 : Sv := sSet 8 (eApp (callG 2 g__law_pick []) (eCons (eVar 0) (eCons (eApp hLst (eCons (eC .non) (eCons (eC (.int 0)) (eCons (eC (.str "")) (eCons (eC (.str "blocks")) (eCons (eC (.str "journal")) (eCons (eApp hTup (eCons (eC (.str "block")) (eNil))) (eCons (eC (.bl true)) (eCons (eVar 2) (eCons (eApp hLst (eNil)) (eNil))))))))))) (eNil))))
def e__law_signs_right_9 : Sv := sSet 9 (eApp hLstN (eCons (eLam 4 e__law_heard (eOp (hTbL tb_add_1 (hOwnB ct) hAdd) (eVar 2) (eVar 8))) (eNil)))
def e__law_signs_right_10 : Sv := sDrop (eAppend (eVar 9) (eLam 4 e__law_heard (eOp (hTbL tb_sub_1 (hOwnB ct) hSub) (eVar 2) (eVar 8))))
def e__law_signs_right_11 : Sv := sDrop (eAppend (eVar 9) (eLam 4 e__law_heard (eOp (hTbL tb_add_1 (hOwnB ct) hAdd) (eVar 2) (eVar 6))))
def e__law_signs_right_12 : Sv := sDrop (eAppend (eVar 9) (eLam 4 e__law_heard (eOp (hTbL tb_sub_1 (hOwnB ct) hSub) (eVar 2) (eOp (hTbL tb_getitem_1 hOwnIx hIx) (eOp (hTbL tb_add_1 (hOwnB ct) hAdd) (eVar 3) (eApp hLst (eCons (eC .non) (eNil)))) (eC (.int 0))))))
def e__law_signs_right_13 : Sv := sRet (eAndE (eOp (hTbL tb_eq_1 (hOwnCmp ct) hEq) (eVar 9) (eOp hMulA (eApp hLst (eCons (eApp hTup (eCons (eC (.str "order")) (eCons (eC (.str "'word'")) (eNil)))) (eNil))) (eC (.int 4)))) (eOp (hTbL tb_eq_1 (hOwnCmp ct) hEq) (eVar 2) (eApp (callG 1 g__law_made []) (eCons (eVar 1) (eNil)))))
def e__law_signs_right : Sv := sSeq e__law_signs_right_0 (sSeq e__law_signs_right_1 (sSeq e__law_signs_right_2 (sSeq e__law_signs_right_3 (sSeq e__law_signs_right_4 (sSeq e__law_signs_right_5 (sSeq e__law_signs_right_6 (sSeq e__law_signs_right_7 (sSeq e__law_signs_right_8 (sSeq e__law_signs_right_9 (sSeq e__law_signs_right_10 (sSeq e__law_signs_right_11 (sSeq e__law_signs_right_12 (e__law_signs_right_13)))))))))))))
def g__law_signs_right : List A → Store → Out A := defF 10 e__law_signs_right
theorem okF__law_signs_right (T : TX K mg base) : FnF P w K mg base (cls K) 8 "_law_signs_right" "_law_signs_right" (defArgs st__law_signs_right) (defBody st__law_signs_right) (defScope st__law_signs_right) (He.fAd K ("_law_signs_right", none)) ["_law_pen_here", "_law_words_here"] g__law_signs_right :=
  fnF_mkC (N := N__law_signs_right) (k := 7) (fb := e__law_signs_right) (T.c.def_ 22) sc__law_signs_right fun A outer s H E hr B =>
    (sss_cons (ss_asg (se_tup (sa_cons (se_fn (ok__law_made T) B (hr.mono (by decide)) (T.glo 28) (sa_cons (se_var 1) sa_nil)) (sa_cons (se_lc (own := [("_law_word", 5)]) (g := gSet 5) (tt := tBool (eOp hNotIn (eVar 5) (eVar 1))) (te := eVar 5) rfl sc__law_signs_right.nd (si_seq (se_frz (se_fn0 (ok__law_all T) B (hr.mono (by decide)) (T.glo 25)))) (blkOk_by (own := [("_law_word", 5)]) (N := N__law_signs_right) (sc := defScope st__law_signs_right) (by decide +kernel)) (fun _ _ _ _ _ => (gx_name 5 (by decide) sc__law_signs_right.nd)) (fun _ _ _ _ _ => (pts_st (st_cmp (o_notIn (room65 hr)) (se_var 5) (se_var 1)))) (fun _ _ _ _ _ => (se_var 5))) sa_nil))) (sg_tup (sgs_cons (sg_name 2 sc__law_signs_right.nd) (sgs_cons (sg_name 3 sc__law_signs_right.nd) sgs_nil (fun _ _ _ _ _ z => z)) (fun _ _ _ _ _ z => z))))
      (sss_cons (ss_if (SW.pt (sw_or (st_not (st_val (se_fn (ok__law_is T) B (hr.mono (by decide)) (T.glo 29) (sa_cons (se_unV (tv_inv (tbk_invert_1 T) B (hr.mono (by decide))) (se_var 2)) (sa_cons (se_rev (se_var 1)) sa_nil))))) (sw_or (st_not (st_val (se_fn (ok__law_is T) B (hr.mono (by decide)) (T.glo 29) (sa_cons (se_var 2) (sa_cons (se_var 1) sa_nil))))) (sw_or1 (st_cmpV (tv_ne (ne_of (cs := [11]) (ex_at T 12) rfl) (ct_ok T) (tbk_eq_1 T) B (hr.mono (by decide))) (se_unV (tv_inv (tbk_invert_1 T) B (hr.mono (by decide))) (se_unV (tv_inv (tbk_invert_1 T) B (hr.mono (by decide))) (se_var 2))) (se_var 2)))))) (sss_one (ss_ret se_bl))
      sss_nil)
      (sss_cons (ss_set 4 sc__law_signs_right.nd (se_var 2))
      (sss_cons (ss_for B (si_seqT (tbik_1 T) B (hr.mono (by decide)) (se_var 3)) (sg_name 5 sc__law_signs_right.nd)
      (sss_cons (ss_aug 4 sc__law_signs_right.nd (tv_aug (op := .Add) opN_add (opT_ok (ex_at T 17)) (ct_ok T) i_add (tbk_add_1 T) B (hr.mono (by decide))) (se_var 5))
      (sss_one (ss_if (st_not (st_val (se_fn (ok__law_is T) B (hr.mono (by decide)) (T.glo 29) (sa_cons (se_var 4) (sa_cons (se_op o_add (se_callT b_list (T.free 15) (sa_cons (se_var 1) sa_nil)) (se_slA (se_var 3) so_none (so_some (se_opV (tv_bin (op := .Add) opN_add (opT_ok (ex_at T 17)) (ct_ok T) (opV_of o_add) (tbk_add_1 T) B (hr.mono (by decide))) (se_bm PySem.F.plainAttrs_list PySem.F.slot_list_index PySem.F.type_list_index m_index (se_var 3) (sa_cons (se_var 5) sa_nil)) se_int)))) sa_nil))))) (sss_one (ss_ret se_bl))
      sss_nil))))
      (sss_cons (ss_set 6 sc__law_signs_right.nd (se_fn (ok__law_pick T) B (hr.mono (by decide)) (T.glo 30) (sa_cons (se_var 0) (sa_cons (se_var 1) sa_nil))))
      (sss_cons (ss_setLc 7 (own := [("_law_word", 5)]) (g := gSet 5) (tt := tBool (eOp (hTbL tb_eq_1 (hOwnNe ct) hNe) (eVar 5) (eVar 6))) (te := eVar 5) rfl sc__law_signs_right.nd (sw_true rfl rfl rfl (by decide +kernel)) (si_seqT (tbik_1 T) B (hr.mono (by decide)) (se_var 1)) (blkOk_by (own := [("_law_word", 5)]) (N := N__law_signs_right) (sc := defScope st__law_signs_right) (by decide +kernel)) (fun _ _ _ _ _ => (gx_name 5 (by decide) sc__law_signs_right.nd)) (fun _ _ _ _ _ => (pts_st (st_cmpV (tv_ne (ne_of (cs := [11]) (ex_at T 12) rfl) (ct_ok T) (tbk_eq_1 T) (bx_blk B) (hr.mono (by decide))) (se_var 5) (se_var 6)))) (fun _ _ _ _ _ => (se_var 5)))
      (sss_cons (ss_if (SW.pt (sw_and (st_cmpV (tv_ne (ne_of (cs := [11]) (ex_at T 12) rfl) (ct_ok T) (tbk_eq_1 T) B (hr.mono (by decide))) (se_var 7) (se_lst sa_nil)) (sw_and1 (st_not (st_val (se_fn (ok__law_is T) B (hr.mono (by decide)) (T.glo 29) (sa_cons (se_opV (tv_bin (op := .Sub) opN_sub (opT_ok (ex_at T 20)) (ct_ok T) (opV_of o_sub) (tbk_sub_1 T) B (hr.mono (by decide))) (se_var 2) (se_var 6)) (sa_cons (se_var 7) sa_nil)))))))) (sss_one (ss_ret se_bl))
      sss_nil)
      (sss_cons (ss_if (SW.pt (sw_and (st_cmpV (tv_eq (ct_ok T) (tbk_eq_1 T) B (hr.mono (by decide))) (se_var 7) (se_lst sa_nil)) (sw_and1 (st_cmpV (tv_ne (ne_of (cs := [11]) (ex_at T 12) rfl) (ct_ok T) (tbk_eq_1 T) B (hr.mono (by decide))) (se_lamR (k := 5) (tfq := tfq) (T.c.def_ 17) sc__law_heard ((ci__law_heard T).mono (by decide)) B (hr.mono (by decide)) (T.glo 31) 0 rfl (tfq_tb T) (ex_at T 21) rfl rfl (fun A outer s H E f c' hr B => (se_opV (tv_bin (op := .Sub) opN_sub (opT_ok (ex_at T 20)) (ct_ok T) (opV_of o_sub) (tbk_sub_1 T) B (hr.mono (by decide))) (se_var 2) (se_var 6))) (by kernel_rfl) (LamX.lamS_by (by kernel_rfl)) rfl (by intros; rfl) (fun _ _ _ _ _ _ us hl => match us, hl with | [_], _ => rfl) rfl (Or.inl rfl)) (se_tup (sa_cons se_str (sa_cons se_str sa_nil))))))) (sss_one (ss_ret se_bl))
      sss_nil)
      (sss_cons (ss_set 8 sc__law_signs_right.nd (se_fn (ok__law_pick T) B (hr.mono (by decide)) (T.glo 30) (sa_cons (se_var 0) (sa_cons (se_lst (sa_cons se_non (sa_cons se_int (sa_cons se_str (sa_cons se_str (sa_cons se_str (sa_cons (se_tup (sa_cons se_str sa_nil)) (sa_cons se_bl (sa_cons (se_var 2) (sa_cons (se_lst sa_nil) sa_nil)))))))))) sa_nil))))
      (sss_cons (ss_set 9 sc__law_signs_right.nd (se_lstN (sa_cons (se_lamR (k := 5) (tfq := tfq) (T.c.def_ 17) sc__law_heard ((ci__law_heard T).mono (by decide)) B (hr.mono (by decide)) (T.glo 31) 0 rfl (tfq_tb T) (ex_at T 21) rfl rfl (fun A outer s H E f c' hr B => (se_opV (tv_bin (op := .Add) opN_add (opT_ok (ex_at T 17)) (ct_ok T) (opV_of o_add) (tbk_add_1 T) B (hr.mono (by decide))) (se_var 2) (se_var 8))) (by kernel_rfl) (LamX.lamS_by (by kernel_rfl)) rfl (by intros; rfl) (fun _ _ _ _ _ _ us hl => match us, hl with | [_], _ => rfl) rfl (Or.inl rfl)) sa_nil)))
      (sss_cons (ss_expr (se_append (se_var 9) (se_lamR (k := 5) (tfq := tfq) (T.c.def_ 17) sc__law_heard ((ci__law_heard T).mono (by decide)) B (hr.mono (by decide)) (T.glo 31) 0 rfl (tfq_tb T) (ex_at T 21) rfl rfl (fun A outer s H E f c' hr B => (se_opV (tv_bin (op := .Sub) opN_sub (opT_ok (ex_at T 20)) (ct_ok T) (opV_of o_sub) (tbk_sub_1 T) B (hr.mono (by decide))) (se_var 2) (se_var 8))) (by kernel_rfl) (LamX.lamS_by (by kernel_rfl)) rfl (by intros; rfl) (fun _ _ _ _ _ _ us hl => match us, hl with | [_], _ => rfl) rfl (Or.inl rfl))))
      (sss_cons (ss_expr (se_append (se_var 9) (se_lamR (k := 5) (tfq := tfq) (T.c.def_ 17) sc__law_heard ((ci__law_heard T).mono (by decide)) B (hr.mono (by decide)) (T.glo 31) 0 rfl (tfq_tb T) (ex_at T 21) rfl rfl (fun A outer s H E f c' hr B => (se_opV (tv_bin (op := .Add) opN_add (opT_ok (ex_at T 17)) (ct_ok T) (opV_of o_add) (tbk_add_1 T) B (hr.mono (by decide))) (se_var 2) (se_var 6))) (by kernel_rfl) (LamX.lamS_by (by kernel_rfl)) rfl (by intros; rfl) (fun _ _ _ _ _ _ us hl => match us, hl with | [_], _ => rfl) rfl (Or.inl rfl))))
      (sss_cons (ss_expr (se_append (se_var 9) (se_lamR (k := 5) (tfq := tfq) (T.c.def_ 17) sc__law_heard ((ci__law_heard T).mono (by decide)) B (hr.mono (by decide)) (T.glo 31) 0 rfl (tfq_tb T) (ex_at T 21) rfl rfl (fun A outer s H E f c' hr B => (se_opV (tv_bin (op := .Sub) opN_sub (opT_ok (ex_at T 20)) (ct_ok T) (opV_of o_sub) (tbk_sub_1 T) B (hr.mono (by decide))) (se_var 2) (se_ixV (tv_ix (fn_of (cs := [11]) (ex_at T 19) rfl) (tbk_getitem_1 T) B (hr.mono (by decide)) (by intro _ _; rfl) (by intro _ _; rfl)) (se_opV (tv_bin (op := .Add) opN_add (opT_ok (ex_at T 17)) (ct_ok T) (opV_of o_add) (tbk_add_1 T) B (hr.mono (by decide))) (se_var 3) (se_lst (sa_cons se_non sa_nil))) se_int))) (by kernel_rfl) (LamX.lamS_by (by kernel_rfl)) rfl (by intros; rfl) (fun _ _ _ _ _ _ us hl => match us, hl with | [_], _ => rfl) rfl (Or.inl rfl))))
      (sss_one (ss_ret (se_and (se_cmpV (tv_eq (ct_ok T) (tbk_eq_1 T) B (hr.mono (by decide))) (se_var 9) (se_op o_mulA (se_lst (sa_cons (se_tup (sa_cons se_str (sa_cons se_str sa_nil))) sa_nil)) se_int)) (se_one (se_cmpV (tv_eq (ct_ok T) (tbk_eq_1 T) B (hr.mono (by decide))) (se_var 2) (se_fn (ok__law_made T) B (hr.mono (by decide)) (T.glo 28) (sa_cons (se_var 1) sa_nil))))))))))))))))))))
theorem ok__law_signs_right (T : TX K mg base) : FnR P w K mg base (cls K) 8 (He.fAd K ("_law_signs_right", none)) ["_law_pen_here", "_law_words_here"] g__law_signs_right := (okF__law_signs_right T).r (fun _ _ _ _ _ _ us hl => match us, hl with | [_, _], _ => rfl)
abbrev st__law_refused_right : Stmt := topS 29
abbrev N__law_refused_right : List Str := ["_law_pen_here", "_law_words_here", "_law_odd", "_law_at", "_law_spoilt", "_law_far", "_law_heard_here", "_law_word"]
theorem sc__law_refused_right : FnScope N__law_refused_right ["_law_pen_here", "_law_words_here"] (defScope st__law_refused_right) := ⟨rfl, rfl, rfl, by decide +kernel, rfl, by decide +kernel, by decide +kernel⟩
def e__law_refused_right_0 : Sv := sPar 2 3 (eCons (eApp (callG 2 g__law_pick []) (eCons (eVar 0) (eCons (eApp hLst (eCons (eC .non) (eCons (eC (.int 0)) (eCons (eC (.str "")) (eCons (eC (.str "blocks")) (eCons (eC (.str "journal")) (eCons (eApp hTup (eCons (eC (.str "block")) (eNil))) (eCons (eC (.bl true)) (eCons (eApp hLst (eNil)) (eCons (eFrz eDnewN) (eNil))))))))))) (eNil)))) (eCons (eApp (callG 2 g__law_draw []) (eCons (eVar 0) (eCons (eApp (hTbC tb_len_1 hOwnLen hLen) (eCons (eVar 1) (eNil))) (eNil)))) (eNil)))
def e__law_refused_right_1 : Sv := sSet 4 (eOp (hTbL tb_add_1 (hOwnB ct) hAdd) (eOp (hTbL tb_add_1 (hOwnB ct) hAdd) (eSlA (eVar 1) (oNone) (oSome (eVar 3))) (eApp hLst (eCons (eApp (callG 2 g__law_pick []) (eCons (eVar 0) (eCons (eApp hLst (eCons (eVar 2) (eCons (eOp (hTbL tb_getitem_1 hOwnIx hIx) (eOp (hTbL tb_add_1 (hOwnB ct) hAdd) (eSlA (eVar 1) (oNone) (oSome (eVar 3))) (eApp hLst (eCons (eVar 2) (eNil)))) (eC (.int 0))) (eNil)))) (eNil)))) (eNil)))) (eSlA (eVar 1) (oSome (eOp (hTbL tb_add_1 (hOwnB ct) hAdd) (eVar 3) (eC (.int 1)))) (oNone)))
def e__law_refused_right_2 : Sv := sIf (tBool (eOp (hTbL tb_eq_1 (hOwnNe ct) hNe) (eLam 4 e__law_heard (eApp (callG 1 g__law_made []) (eCons (eVar 4) (eNil)))) (eApp hTup (eCons (eC (.str "order")) (eCons (eApp hRepr (eCons (eVar 3) (eNil))) (eNil)))))) (sRet (eC (.bl false)))
    (sNext)
def e__law_refused_right_3 : Sv := sIf (tBool (eOp (hTbL tb_eq_1 (hOwnNe ct) hNe) (eLam 4 e__law_heard (eApp (kMake 11 (starG 1 g_Order___init__)) eNil)) (eApp hTup (eCons (eC (.str "order")) (eCons (eC (.str "'words'")) (eNil)))))) (sRet (eC (.bl false)))
    (sNext)
def e__law_refused_right_4 : Sv := sSet 5 (eApp (callG 2 g__law_pick []) (eCons (eVar 0) (eCons (eApp hLst (eCons (eUn hNeg (eC (.int 1))) (eCons (eApp (hTbC tb_len_1 hOwnLen hLen) (eCons (eVar 1) (eNil))) (eCons (eC .non) (eCons (eC (.bl true)) (eCons (eC (.str "0")) (eCons (eApp hTup (eCons (eC (.int 0)) (eNil))) (eCons (eOp hPow (eC (.int 10)) (eC (.int 20))) (eNil))))))))) (eNil))))
def e__law_refused_right_5 : Sv := sIf (tBool (eOp (hTbL tb_eq_1 (hOwnNe ct) hNe) (eLam 4 e__law_heard (eOp (hTbL tb_getitem_1 hOwnIx hIx) (eApp (callG 1 g__law_made []) (eCons (eVar 1) (eNil))) (eVar 5))) (eApp hTup (eCons (eC (.str "count")) (eCons (eApp hRepr (eCons (eVar 5) (eNil))) (eNil)))))) (sRet (eC (.bl false)))
    (sNext)
def e__law_refused_right_6 : Sv := sSet 6 (eLam 4 e__law_heard (eApp (kCm 11 (callG 2 g_Order_read [])) (eCons (eBm "str" kJoin (eC (.str " ")) (eCons (eLc [7] (iSeqT tbi_1 (eVar 4)) (gSet 7) (tYesE) (eApp (hTbC tb_str_1 hOwnStr hStrC) (eCons (eVar 7) (eNil)))) (eNil))) (eNil))))
def e__law_refused_right_7 : Sv := sRet (eOrE (eOp (hTbL tb_eq_1 (hOwnCmp ct) hEq) (eVar 6) (eApp hTup (eCons (eC (.str "text")) (eCons (eC (.int 0)) (eCons (eVar 3) (eNil)))))) (eOp hIn (eC (.str " ")) (eApp (hTbC tb_str_1 hOwnStr hStrC) (eCons (eOp (hTbL tb_getitem_1 hOwnIx hIx) (eVar 4) (eVar 3)) (eNil)))))
def e__law_refused_right : Sv := sSeq e__law_refused_right_0 (sSeq e__law_refused_right_1 (sSeq e__law_refused_right_2 (sSeq e__law_refused_right_3 (sSeq e__law_refused_right_4 (sSeq e__law_refused_right_5 (sSeq e__law_refused_right_6 (e__law_refused_right_7)))))))
def g__law_refused_right : List A → Store → Out A := defF 8 e__law_refused_right
theorem okF__law_refused_right (T : TX K mg base) : FnF P w K mg base (cls K) 9 "_law_refused_right" "_law_refused_right" (defArgs st__law_refused_right) (defBody st__law_refused_right) (defScope st__law_refused_right) (He.fAd K ("_law_refused_right", none)) ["_law_pen_here", "_law_words_here"] g__law_refused_right :=
  fnF_mkC (N := N__law_refused_right) (k := 8) (fb := e__law_refused_right) (T.c.def_ 23) sc__law_refused_right fun A outer s H E hr B =>
    (sss_cons (ss_par 2 3 sc__law_refused_right.nd (sa_cons (se_fn (ok__law_pick T) B (hr.mono (by decide)) (T.glo 30) (sa_cons (se_var 0) (sa_cons (se_lst (sa_cons se_non (sa_cons se_int (sa_cons se_str (sa_cons se_str (sa_cons se_str (sa_cons (se_tup (sa_cons se_str sa_nil)) (sa_cons se_bl (sa_cons (se_lst sa_nil) (sa_cons (se_frz se_dnewN) sa_nil)))))))))) sa_nil))) (sa_cons (se_fn (ok__law_draw T) B (hr.mono (by decide)) (T.glo 17) (sa_cons (se_var 0) (sa_cons (se_callBV (tv_len (tbk_len_1 T) B (hr.mono (by decide))) (T.free 7) (sa_cons (se_var 1) sa_nil)) sa_nil))) sa_nil)))
      (sss_cons (ss_set 4 sc__law_refused_right.nd (se_opV (tv_bin (op := .Add) opN_add (opT_ok (ex_at T 17)) (ct_ok T) (opV_of o_add) (tbk_add_1 T) B (hr.mono (by decide))) (se_opV (tv_bin (op := .Add) opN_add (opT_ok (ex_at T 17)) (ct_ok T) (opV_of o_add) (tbk_add_1 T) B (hr.mono (by decide))) (se_slA (se_var 1) so_none (so_some (se_var 3))) (se_lst (sa_cons (se_fn (ok__law_pick T) B (hr.mono (by decide)) (T.glo 30) (sa_cons (se_var 0) (sa_cons (se_lst (sa_cons (se_var 2) (sa_cons (se_ixV (tv_ix (fn_of (cs := [11]) (ex_at T 19) rfl) (tbk_getitem_1 T) B (hr.mono (by decide)) (by intro _ _; rfl) (by intro _ _; rfl)) (se_opV (tv_bin (op := .Add) opN_add (opT_ok (ex_at T 17)) (ct_ok T) (opV_of o_add) (tbk_add_1 T) B (hr.mono (by decide))) (se_slA (se_var 1) so_none (so_some (se_var 3))) (se_lst (sa_cons (se_var 2) sa_nil))) se_int) sa_nil))) sa_nil))) sa_nil))) (se_slA (se_var 1) (so_some (se_opV (tv_bin (op := .Add) opN_add (opT_ok (ex_at T 17)) (ct_ok T) (opV_of o_add) (tbk_add_1 T) B (hr.mono (by decide))) (se_var 3) se_int)) so_none)))
      (sss_cons (ss_if (st_cmpV (tv_ne (ne_of (cs := [11]) (ex_at T 12) rfl) (ct_ok T) (tbk_eq_1 T) B (hr.mono (by decide))) (se_lamR (k := 6) (tfq := tfq) (T.c.def_ 17) sc__law_heard ((ci__law_heard T).mono (by decide)) B (hr.mono (by decide)) (T.glo 31) 1 rfl (tfq_tb T) (ex_at T 21) rfl rfl (fun A outer s H E f c' hr B => (se_fn (ok__law_made T) B (hr.mono (by decide)) (T.glo 28) (sa_cons (se_var 4) sa_nil))) (by kernel_rfl) (LamX.lamS_by (by kernel_rfl)) rfl (by intros; rfl) (fun _ _ _ _ _ _ us hl => match us, hl with | [_], _ => rfl) rfl (Or.inl rfl)) (se_tup (sa_cons se_str (sa_cons (se_callB (b_repr B.gd hr.units) (T.free 20) (sa_cons (se_var 3) sa_nil)) sa_nil)))) (sss_one (ss_ret se_bl))
      sss_nil)
      (sss_cons (ss_if (st_cmpV (tv_ne (ne_of (cs := [11]) (ex_at T 12) rfl) (ct_ok T) (tbk_eq_1 T) B (hr.mono (by decide))) (se_lamR (k := 4) (tfq := tfq) (T.c.def_ 17) sc__law_heard ((ci__law_heard T).mono (by decide)) B (hr.mono (by decide)) (T.glo 31) 1 rfl (tfq_tb T) (ex_at T 21) rfl rfl (fun A outer s H E f c' hr B => (se_make0 (ob_Order T) B (hr.mono (by decide)) (T.glo 5))) (by kernel_rfl) (LamX.lamS_by (by kernel_rfl)) rfl (by intros; rfl) (fun _ _ _ _ _ _ us hl => match us, hl with | [_], _ => rfl) rfl (Or.inl rfl)) (se_tup (sa_cons se_str (sa_cons se_str sa_nil)))) (sss_one (ss_ret se_bl))
      sss_nil)
      (sss_cons (ss_set 5 sc__law_refused_right.nd (se_fn (ok__law_pick T) B (hr.mono (by decide)) (T.glo 30) (sa_cons (se_var 0) (sa_cons (se_lst (sa_cons (se_un u_neg se_int) (sa_cons (se_callBV (tv_len (tbk_len_1 T) B (hr.mono (by decide))) (T.free 7) (sa_cons (se_var 1) sa_nil)) (sa_cons se_non (sa_cons se_bl (sa_cons se_str (sa_cons (se_tup (sa_cons se_int sa_nil)) (sa_cons (se_op o_pow se_int se_int) sa_nil)))))))) sa_nil))))
      (sss_cons (ss_if (st_cmpV (tv_ne (ne_of (cs := [11]) (ex_at T 12) rfl) (ct_ok T) (tbk_eq_1 T) B (hr.mono (by decide))) (se_lamR (k := 6) (tfq := tfq) (T.c.def_ 17) sc__law_heard ((ci__law_heard T).mono (by decide)) B (hr.mono (by decide)) (T.glo 31) 1 rfl (tfq_tb T) (ex_at T 21) rfl rfl (fun A outer s H E f c' hr B => (se_ixV (tv_ix (fn_of (cs := [11]) (ex_at T 19) rfl) (tbk_getitem_1 T) B (hr.mono (by decide)) (by intro _ _; rfl) (by intro _ _; rfl)) (se_fn (ok__law_made T) B (hr.mono (by decide)) (T.glo 28) (sa_cons (se_var 1) sa_nil)) (se_var 5))) (by kernel_rfl) (LamX.lamS_by (by kernel_rfl)) rfl (by intros; rfl) (fun _ _ _ _ _ _ us hl => match us, hl with | [_], _ => rfl) rfl (Or.inl rfl)) (se_tup (sa_cons se_str (sa_cons (se_callB (b_repr B.gd hr.units) (T.free 20) (sa_cons (se_var 5) sa_nil)) sa_nil)))) (sss_one (ss_ret se_bl))
      sss_nil)
      (sss_cons (ss_set 6 sc__law_refused_right.nd (se_lamR (k := 5) (tfq := tfq) (T.c.def_ 17) sc__law_heard ((ci__law_heard T).mono (by decide)) B (hr.mono (by decide)) (T.glo 31) 1 rfl (tfq_tb T) (ex_at T 21) rfl rfl (fun A outer s H E f c' hr B => (se_cm (cm_Order_read T) B (hr.mono (by decide)) (T.glo 5) (sa_cons (se_bm PySem.F.plainAttrs_str PySem.F.slot_str_join PySem.F.type_str_join m_join se_str (sa_cons (se_lc (own := [("_law_word", 7)]) (g := gSet 7) (tt := tYesE) (te := eApp (hTbC tb_str_1 hOwnStr hStrC) (eCons (eVar 7) (eNil))) rfl sc__law_refused_right.nd (si_seqT (tbik_1 T) B (hr.mono (by decide)) (se_var 4)) (blkOk_by (own := [("_law_word", 7)]) (N := N__law_refused_right) (by kernel_rfl)) (fun _ _ _ _ _ => (gx_name 7 (by decide) sc__law_refused_right.nd)) (fun _ _ _ _ _ => pts_none) (fun _ _ _ _ _ => (se_callTV (tv_str (tbk_str_1 T) (bx_blk B) (hr.mono (by decide))) (T.free 6) (sa_cons (se_var 7) sa_nil)))) sa_nil)) sa_nil))) (by kernel_rfl) (LamX.lamS_by (by kernel_rfl)) rfl (by intros; rfl) (fun _ _ _ _ _ _ us hl => match us, hl with | [_], _ => rfl) rfl (Or.inl rfl)))
      (sss_one (ss_ret (se_or (se_cmpV (tv_eq (ct_ok T) (tbk_eq_1 T) B (hr.mono (by decide))) (se_var 6) (se_tup (sa_cons se_str (sa_cons se_int (sa_cons (se_var 3) sa_nil))))) (se_one (se_cmp (o_in (room65 hr)) se_str (se_callTV (tv_str (tbk_str_1 T) B (hr.mono (by decide))) (T.free 6) (sa_cons (se_ixV (tv_ix (fn_of (cs := [11]) (ex_at T 19) rfl) (tbk_getitem_1 T) B (hr.mono (by decide)) (by intro _ _; rfl) (by intro _ _; rfl)) (se_var 4) (se_var 3)) sa_nil))))))))))))))
theorem ok__law_refused_right (T : TX K mg base) : FnR P w K mg base (cls K) 9 (He.fAd K ("_law_refused_right", none)) ["_law_pen_here", "_law_words_here"] g__law_refused_right := (okF__law_refused_right T).r (fun _ _ _ _ _ _ us hl => match us, hl with | [_, _], _ => rfl)
theorem cmk_Order_read_text (T : TX K mg base) : CmKR P w K mg base (cls K) 5 11 "read" ["text"] (kwG 1 [0] 2 g_Order_read) := cmk_mk (ex_at T 6) ((okF_Order_read T).kw (fun _ _ _ _ _ _ us ws hl hw => match us, hl, ws, hw with | [_], _, [_], _ => rfl))
abbrev st__law_texts_right : Stmt := topS 30
abbrev N__law_texts_right : List Str := ["_law_pen_here", "_law_words_here", "_law_made_here", "_law_bent", "_law_odd", "_law_other"]
theorem sc__law_texts_right : FnScope N__law_texts_right ["_law_pen_here", "_law_words_here"] (defScope st__law_texts_right) := ⟨rfl, rfl, rfl, by decide +kernel, rfl, by decide +kernel, by decide +kernel⟩
def e__law_texts_right_0 : Sv := sAsg (eApp hTup (eCons (eApp (callG 1 g__law_made []) (eCons (eVar 1) (eNil))) (eCons (eOp (hTbL tb_add_1 (hOwnB ct) hAdd) (eVar 1) (eApp hLst (eCons (eApp (callG 2 g__law_pick []) (eCons (eVar 0) (eCons (eOp (hTbL tb_add_1 (hOwnB ct) hAdd) (eVar 1) (eApp hLst (eCons (eC (.str "")) (eCons (eC (.str "none")) (eCons (eC (.str "Block")) (eNil)))))) (eNil)))) (eNil)))) (eNil)))) (gTupE 2 (gMore (gSet 2) (gMore (gSet 3) (gNone))))
def e__law_texts_right_1 : Sv := sIf (tOrE (tBool (eOp (hTbL tb_eq_1 (hOwnNe ct) hNe) (eApp (kCm 11 (callG 2 g_Order_read [])) (eCons (eApp (hTbC tb_str_1 hOwnStr hStrC) (eCons (eVar 2) (eNil))) (eNil))) (eVar 2))) (tBool (eOp (hTbL tb_eq_1 (hOwnNe ct) hNe) (eApp (fun as S => if as.length = (["text"] : List Str).length then kCm 11 (kwG 1 [0] 2 g_Order_read) as S else .bad) (eCons (eBm "str" kJoin (eC (.str " ")) (eCons (eVar 1) (eNil))) (eNil))) (eVar 2)))) (sRet (eC (.bl false)))
    (sNext)
def e__law_texts_right_2 : Sv := sIf (tBool (eOp (hTbL tb_eq_1 (hOwnNe ct) hNe) (eLam 4 e__law_heard (eApp (kCm 11 (callG 2 g_Order_read [])) (eCons (eBm "str" kJoin (eC (.str " ")) (eCons (eVar 3) (eNil))) (eNil)))) (eApp hTup (eCons (eC (.str "text")) (eCons (eC (.int 0)) (eCons (eApp (hTbC tb_len_1 hOwnLen hLen) (eCons (eVar 1) (eNil))) (eNil))))))) (sRet (eC (.bl false)))
    (sNext)
def e__law_texts_right_3 : Sv := sSet 4 (eApp (callG 2 g__law_pick []) (eCons (eVar 0) (eCons (eApp hLst (eCons (eC .non) (eCons (eC (.int 0)) (eCons (eC (.bl true)) (eCons (eVar 1) (eCons (eVar 2) (eCons (eFrz eDnewN) (eCons (eOp hPow (eC (.int 10)) (eC (.int 20))) (eNil))))))))) (eNil))))
def e__law_texts_right_4 : Sv := sSet 5 (eApp (callG 1 g__law_made []) (eCons (eUn hRev (eVar 1)) (eNil)))
def e__law_texts_right_5 : Sv := sIf (tOrE (tBool (eOp (hTbL tb_eq_1 (hOwnNe ct) hNe) (eLam 4 e__law_heard (eApp (kCm 11 (callG 2 g_Order_read [])) (eCons (eVar 4) (eNil)))) (eApp hTup (eCons (eC (.str "text")) (eCons (eC (.int 0)) (eCons (eC (.int 0)) (eNil))))))) (tBool (eOp hNe (eOp (hTbL tb_eq_1 (hOwnCmp ct) hEq) (eVar 2) (eVar 5)) (eOp (hTbL tb_eq_1 (hOwnCmp ct) hEq) (eVar 1) (eUn hRev (eVar 1)))))) (sRet (eC (.bl false)))
    (sNext)
def e__law_texts_right_6 : Sv := sRet (eAndE (eOp (hTbL tb_eq_1 (hOwnNe ct) hNe) (eVar 2) (eApp hTuple (eCons (eVar 1) (eNil)))) (eAndE (eOp (hTbL tb_eq_1 (hOwnNe ct) hNe) (eVar 2) (eApp (hTbC tb_str_1 hOwnStr hStrC) (eCons (eVar 2) (eNil)))) (eOp (hTbL tb_eq_1 (hOwnCmp ct) hEq) (eC (.tup ((["block", "page", "cell", "bucket", "parity"] : List Str).map D.str))) (eApp hTuple (eCons (eFrz (eApp (callG 0 g__law_all []) eNil)) (eNil))))))
def e__law_texts_right : Sv := sSeq e__law_texts_right_0 (sSeq e__law_texts_right_1 (sSeq e__law_texts_right_2 (sSeq e__law_texts_right_3 (sSeq e__law_texts_right_4 (sSeq e__law_texts_right_5 (e__law_texts_right_6))))))
def g__law_texts_right : List A → Store → Out A := defF 6 e__law_texts_right
theorem okF__law_texts_right (T : TX K mg base) : FnF P w K mg base (cls K) 8 "_law_texts_right" "_law_texts_right" (defArgs st__law_texts_right) (defBody st__law_texts_right) (defScope st__law_texts_right) (He.fAd K ("_law_texts_right", none)) ["_law_pen_here", "_law_words_here"] g__law_texts_right :=
  fnF_mkC (N := N__law_texts_right) (k := 7) (fb := e__law_texts_right) (T.c.def_ 24) sc__law_texts_right fun A outer s H E hr B =>
    (sss_cons (ss_asg (se_tup (sa_cons (se_fn (ok__law_made T) B (hr.mono (by decide)) (T.glo 28) (sa_cons (se_var 1) sa_nil)) (sa_cons (se_opV (tv_bin (op := .Add) opN_add (opT_ok (ex_at T 17)) (ct_ok T) (opV_of o_add) (tbk_add_1 T) B (hr.mono (by decide))) (se_var 1) (se_lst (sa_cons (se_fn (ok__law_pick T) B (hr.mono (by decide)) (T.glo 30) (sa_cons (se_var 0) (sa_cons (se_opV (tv_bin (op := .Add) opN_add (opT_ok (ex_at T 17)) (ct_ok T) (opV_of o_add) (tbk_add_1 T) B (hr.mono (by decide))) (se_var 1) (se_lst (sa_cons se_str (sa_cons se_str (sa_cons se_str sa_nil))))) sa_nil))) sa_nil))) sa_nil))) (sg_tup (sgs_cons (sg_name 2 sc__law_texts_right.nd) (sgs_cons (sg_name 3 sc__law_texts_right.nd) sgs_nil (fun _ _ _ _ _ z => z)) (fun _ _ _ _ _ z => z))))
      (sss_cons (ss_if (SW.pt (sw_or (st_cmpV (tv_ne (ne_of (cs := [11]) (ex_at T 12) rfl) (ct_ok T) (tbk_eq_1 T) B (hr.mono (by decide))) (se_cm (cm_Order_read T) B (hr.mono (by decide)) (T.glo 5) (sa_cons (se_callTV (tv_str (tbk_str_1 T) B (hr.mono (by decide))) (T.free 6) (sa_cons (se_var 2) sa_nil)) sa_nil)) (se_var 2)) (sw_or1 (st_cmpV (tv_ne (ne_of (cs := [11]) (ex_at T 12) rfl) (ct_ok T) (tbk_eq_1 T) B (hr.mono (by decide))) (se_cmK (cmk_Order_read_text T) B (hr.mono (by decide)) (T.glo 5) (sk_cons (se_bm PySem.F.plainAttrs_str PySem.F.slot_str_join PySem.F.type_str_join m_join se_str (sa_cons (se_var 1) sa_nil)) sk_nil)) (se_var 2))))) (sss_one (ss_ret se_bl))
      sss_nil)
      (sss_cons (ss_if (st_cmpV (tv_ne (ne_of (cs := [11]) (ex_at T 12) rfl) (ct_ok T) (tbk_eq_1 T) B (hr.mono (by decide))) (se_lamR (k := 5) (tfq := tfq) (T.c.def_ 17) sc__law_heard ((ci__law_heard T).mono (by decide)) B (hr.mono (by decide)) (T.glo 31) 2 rfl (tfq_tb T) (ex_at T 21) rfl rfl (fun A outer s H E f c' hr B => (se_cm (cm_Order_read T) B (hr.mono (by decide)) (T.glo 5) (sa_cons (se_bm PySem.F.plainAttrs_str PySem.F.slot_str_join PySem.F.type_str_join m_join se_str (sa_cons (se_var 3) sa_nil)) sa_nil))) (by kernel_rfl) (LamX.lamS_by (by kernel_rfl)) rfl (by intros; rfl) (fun _ _ _ _ _ _ us hl => match us, hl with | [_], _ => rfl) rfl (Or.inl rfl)) (se_tup (sa_cons se_str (sa_cons se_int (sa_cons (se_callBV (tv_len (tbk_len_1 T) B (hr.mono (by decide))) (T.free 7) (sa_cons (se_var 1) sa_nil)) sa_nil))))) (sss_one (ss_ret se_bl))
      sss_nil)
      (sss_cons (ss_set 4 sc__law_texts_right.nd (se_fn (ok__law_pick T) B (hr.mono (by decide)) (T.glo 30) (sa_cons (se_var 0) (sa_cons (se_lst (sa_cons se_non (sa_cons se_int (sa_cons se_bl (sa_cons (se_var 1) (sa_cons (se_var 2) (sa_cons (se_frz se_dnewN) (sa_cons (se_op o_pow se_int se_int) sa_nil)))))))) sa_nil))))
      (sss_cons (ss_set 5 sc__law_texts_right.nd (se_fn (ok__law_made T) B (hr.mono (by decide)) (T.glo 28) (sa_cons (se_rev (se_var 1)) sa_nil)))
      (sss_cons (ss_if (SW.pt (sw_or (st_cmpV (tv_ne (ne_of (cs := [11]) (ex_at T 12) rfl) (ct_ok T) (tbk_eq_1 T) B (hr.mono (by decide))) (se_lamR (k := 5) (tfq := tfq) (T.c.def_ 17) sc__law_heard ((ci__law_heard T).mono (by decide)) B (hr.mono (by decide)) (T.glo 31) 2 rfl (tfq_tb T) (ex_at T 21) rfl rfl (fun A outer s H E f c' hr B => (se_cm (cm_Order_read T) B (hr.mono (by decide)) (T.glo 5) (sa_cons (se_var 4) sa_nil))) (by kernel_rfl) (LamX.lamS_by (by kernel_rfl)) rfl (by intros; rfl) (fun _ _ _ _ _ _ us hl => match us, hl with | [_], _ => rfl) rfl (Or.inl rfl)) (se_tup (sa_cons se_str (sa_cons se_int (sa_cons se_int sa_nil))))) (sw_or1 (st_cmp (o_ne hr.units) (se_cmpV (tv_eq (ct_ok T) (tbk_eq_1 T) B (hr.mono (by decide))) (se_var 2) (se_var 5)) (se_cmpV (tv_eq (ct_ok T) (tbk_eq_1 T) B (hr.mono (by decide))) (se_var 1) (se_rev (se_var 1))))))) (sss_one (ss_ret se_bl))
      sss_nil)
      (sss_one (ss_ret (se_and (se_cmpV (tv_ne (ne_of (cs := [11]) (ex_at T 12) rfl) (ct_ok T) (tbk_eq_1 T) B (hr.mono (by decide))) (se_var 2) (se_callT b_tuple (T.free 27) (sa_cons (se_var 1) sa_nil))) (se_and (se_cmpV (tv_ne (ne_of (cs := [11]) (ex_at T 12) rfl) (ct_ok T) (tbk_eq_1 T) B (hr.mono (by decide))) (se_var 2) (se_callTV (tv_str (tbk_str_1 T) B (hr.mono (by decide))) (T.free 6) (sa_cons (se_var 2) sa_nil))) (se_one (se_cmpV (tv_eq (ct_ok T) (tbk_eq_1 T) B (hr.mono (by decide))) (se_cstrs (c := 11) (ex_at T 4) (T.glo 5)) (se_callT b_tuple (T.free 27) (sa_cons (se_frz (se_fn0 (ok__law_all T) B (hr.mono (by decide)) (T.glo 25))) sa_nil))))))))))))))
theorem ok__law_texts_right (T : TX K mg base) : FnR P w K mg base (cls K) 8 (He.fAd K ("_law_texts_right", none)) ["_law_pen_here", "_law_words_here"] g__law_texts_right := (okF__law_texts_right T).r (fun _ _ _ _ _ _ us hl => match us, hl with | [_, _], _ => rfl)
abbrev st_law : Stmt := topS 31
abbrev N_law : List Str := ["_law_script", "_law_pen_here", "_law_turn", "_law_words_here"]
theorem sc_law : FnScope N_law ["_law_script"] (defScope st_law) := ⟨rfl, rfl, rfl, by decide +kernel, rfl, by decide +kernel, by decide +kernel⟩
def e_law_0 : Sv := sSet 1 (eApp (callG 1 g__law_pen []) (eCons (eVar 0) (eNil)))
def e_law_1 : Sv := sFor (iRange1 (eCons (eC (.int 9)) (eNil))) (gSet 2)
    (sSeq (sSet 3 (eApp (callG 1 g__law_words []) (eCons (eVar 1) (eNil))))
    (sSeq (sIf (tOrE (tNotE (tBool (eApp (callG 2 g__law_is []) (eCons (eApp (callG 1 g__law_made []) (eCons (eVar 3) (eNil))) (eCons (eVar 3) (eNil)))))) (tNotE (tBool (eApp (callG 2 g__law_signs_right []) (eCons (eVar 1) (eCons (eVar 3) (eNil))))))) (sRet (eC (.bl false)))
    (sNext))
    (sIf (tOrE (tNotE (tBool (eApp (callG 2 g__law_refused_right []) (eCons (eVar 1) (eCons (eVar 3) (eNil)))))) (tNotE (tBool (eApp (callG 2 g__law_texts_right []) (eCons (eVar 1) (eCons (eVar 3) (eNil))))))) (sRet (eC (.bl false)))
    (sNext))))
def e_law_2 : Sv := sRet (eAndE (eOp hEq (eApp (hTbC tb_str_1 hOwnStr hStrC) (eCons (eOp (hTbL tb_add_1 (hOwnB ct) hAdd) (eApp (kMake 11 (starG 1 g_Order___init__)) (eCons (eC (.str "page")) (eNil))) (eC (.str "block"))) (eNil))) (eC (.str "page block"))) (eOp hEq (eApp (hTbC tb_str_1 hOwnStr hStrC) (eCons (eUn (hTbU tb_invert_1 hOwnUn fun _ _ => .bad) (eApp (kMake 11 (starG 1 g_Order___init__)) (eCons (eC (.str "block")) (eCons (eC (.str "parity")) (eNil))))) (eNil))) (eC (.str "parity block"))))
def e_law : Sv := sSeq e_law_0 (sSeq e_law_1 (e_law_2))
def g_law : List A → Store → Out A := defF 4 e_law
theorem okG_law (T : TX K mg base) {fd : FuncData} (F : FunD K "law" "law" (defArgs st_law) (defBody st_law) (defScope st_law) [] [] (He.fAd K ("law", none)) fd) : FnG P w K mg base 10 (He.fAd K ("law", none)) fd ["_law_script"] (SpF K (cls K) 1 g_law) :=
  fn_def (N := N_law) (k := 9) (fb := e_law) F sc_law fun cdv A outer s H E hr B =>
    (sss_cons (ss_set 1 sc_law.nd (se_fn (ok__law_pen T) B (hr.mono (by decide)) (T.glo 32) (sa_cons (se_var 0) sa_nil)))
      (sss_cons (ss_for B (si_range1 (sa_cons se_int sa_nil) (T.free 26)) (sg_name 2 sc_law.nd)
      (sss_cons (ss_set 3 sc_law.nd (se_fn (ok__law_words T) B (hr.mono (by decide)) (T.glo 33) (sa_cons (se_var 1) sa_nil)))
      (sss_cons (ss_if (SW.pt (sw_or (st_not (st_val (se_fn (ok__law_is T) B (hr.mono (by decide)) (T.glo 29) (sa_cons (se_fn (ok__law_made T) B (hr.mono (by decide)) (T.glo 28) (sa_cons (se_var 3) sa_nil)) (sa_cons (se_var 3) sa_nil))))) (sw_or1 (st_not (st_val (se_fn (ok__law_signs_right T) B (hr.mono (by decide)) (T.glo 34) (sa_cons (se_var 1) (sa_cons (se_var 3) sa_nil)))))))) (sss_one (ss_ret se_bl))
      sss_nil)
      (sss_one (ss_if (SW.pt (sw_or (st_not (st_val (se_fn (ok__law_refused_right T) B (hr.mono (by decide)) (T.glo 35) (sa_cons (se_var 1) (sa_cons (se_var 3) sa_nil))))) (sw_or1 (st_not (st_val (se_fn (ok__law_texts_right T) B (hr.mono (by decide)) (T.glo 36) (sa_cons (se_var 1) (sa_cons (se_var 3) sa_nil)))))))) (sss_one (ss_ret se_bl))
      sss_nil)))))
      (sss_one (ss_ret (se_and (se_cmp (o_eq hr.units) (se_callTV (tv_str (tbk_str_1 T) B (hr.mono (by decide))) (T.free 6) (sa_cons (se_opV (tv_bin (op := .Add) opN_add (opT_ok (ex_at T 17)) (ct_ok T) (opV_of o_add) (tbk_add_1 T) B (hr.mono (by decide))) (se_make (ob_Order T) B (hr.mono (by decide)) (T.glo 5) (sa_cons se_str sa_nil)) se_str) sa_nil)) se_str) (se_one (se_cmp (o_eq hr.units) (se_callTV (tv_str (tbk_str_1 T) B (hr.mono (by decide))) (T.free 6) (sa_cons (se_unV (tv_inv (tbk_invert_1 T) B (hr.mono (by decide))) (se_make (ob_Order T) B (hr.mono (by decide)) (T.glo 5) (sa_cons se_str (sa_cons se_str sa_nil)))) sa_nil)) se_str)))))))
end
end Lw


namespace Lw
open PySem L2 R
abbrev W5 : List Str := ["block", "page", "cell", "bucket", "parity"]
abbrev od (w : List Str) : A := .val (.obj 11 ["words"] [.tup (ts w)])
theorem w5_tx : TxOk W5 := by decide +kernel
structure Row (w : List Str) : Prop where
  nd : w.Nodup
  w5 : ∀ x ∈ w, x ∈ W5
theorem Row.tx {w : List Str} (h : Row w) : TxOk w := fun x hx => w5_tx x (h.w5 x hx)
theorem hEq_i {i j : Int} {S : Store} : hEq (.val (.int i)) (.val (.int j)) S = .ok (.val (.bl (i == j))) S := rfl
theorem hNe_i {i j : Int} {S : Store} : hNe (.val (.int i)) (.val (.int j)) S = .ok (.val (.bl (!(i == j)))) S := rfl
/-- no text -/
def NonS (d : D) : Prop := ∀ S : Store, hIsI ct [.val d, .val (.ty "str")] S = .ok (.val (.bl false)) S
section
variable {S : Store} {x : Str} {d : D} {w pre : List Str}
theorem isI_str : hIsI ct [.val (.str x), .val (.ty "str")] S = .ok (.val (.bl true)) S := rfl
theorem est1 {a : A} : startE 1 [a] = [some a] := rfl
theorem isw_str (hx : PyData.strOk x = true) : callG 1 g_is_word [] [.val (.str x)] S = .ok (.val (.bl (decide (x ∈ W5)))) S := by
  show defF 1 e_is_word [_] S = _
  rw [z_def, est1]
  unfold e_is_word
  simp only [z_bind_ok, z_bindS_ok, z_C, z_var, z_kVar, z_op, z_kOp, z_un, z_nil, z_cons, z_kCons, z_kCons2, z_app, z_bool, z_kBool, z_and, z_kAnd_t, z_kAnd_f, z_or, z_kOr_t, z_kOr_f, z_not, z_kNot, z_andE, z_kAndE_t, z_kAndE_f, z_orE, z_kOrE_t, z_kOrE_f, z_ifE, z_kIfE_t, z_kIfE_f, z_frz, z_frz_v, z_seq, z_seq_nx, z_seq_rt, z_seq_bk, z_seq_ct, z_drop, z_kDrop, z_ret, z_kRet, z_retN, z_set, z_kSet, z_if, z_kIf_t, z_kIf_f, z_par, z_kPar, z_asg, z_kAsg, z_kAsg2, z_next, z_break, z_cont, z_gSet, z_for_nil, z_for_cons, z_kFor, z_kFor_nx, z_kFor_ct, z_kFor_bk, z_kFor_rt, z_forI, z_kForI, List.getElem?_cons_zero, List.getElem?_cons_succ, List.set_cons_zero, List.set_cons_succ, isI_str, hIn_t hx w5_tx, z_kDef_v, List.take_length]
theorem isw_non (h : NonS d) : callG 1 g_is_word [] [.val d] S = .ok (.val (.bl false)) S := by
  show defF 1 e_is_word [_] S = _
  rw [z_def, est1]
  unfold e_is_word
  simp only [z_bind_ok, z_bindS_ok, z_C, z_var, z_kVar, z_op, z_kOp, z_un, z_nil, z_cons, z_kCons, z_kCons2, z_app, z_bool, z_kBool, z_and, z_kAnd_t, z_kAnd_f, z_or, z_kOr_t, z_kOr_f, z_not, z_kNot, z_andE, z_kAndE_t, z_kAndE_f, z_orE, z_kOrE_t, z_kOrE_f, z_ifE, z_kIfE_t, z_kIfE_f, z_frz, z_frz_v, z_seq, z_seq_nx, z_seq_rt, z_seq_bk, z_seq_ct, z_drop, z_kDrop, z_ret, z_kRet, z_retN, z_set, z_kSet, z_if, z_kIf_t, z_kIf_f, z_par, z_kPar, z_asg, z_kAsg, z_kAsg2, z_next, z_break, z_cont, z_gSet, z_for_nil, z_for_cons, z_kFor, z_kFor_nx, z_kFor_ct, z_kFor_bk, z_kFor_rt, z_forI, z_kForI, List.getElem?_cons_zero, List.getElem?_cons_succ, List.set_cons_zero, List.set_cons_succ, h S, z_kDef_v, List.take_length]
/-- what no order has behind these words -/
def BadAt (pre : List Str) (d : D) : Prop := NonS d ∨ ∃ x, d = .str x ∧ PyData.strOk x = true ∧ (x ∉ W5 ∨ x ∈ pre)
def condE (iw ix isrc : Nat) : Ev Bool := tOrE (tNotE (tBool (eApp (callG 1 g_is_word []) (eCons (eVar iw) (eNil))))) (tBool (eOp hIn (eVar iw) (eSlA (eVar isrc) (oNone) (oSome (eVar ix)))))
theorem cut_take (ds : List D) (k : Nat) (h : k ≤ ds.length) : cutD ds none (some (k : Int)) = ds.take k := by
  unfold cutD
  have e1 : HT.sIx ds.length 0 none = 0 := rfl
  rw [e1, List.drop_zero, Nat.sub_zero]
  have e2 : HT.sIx ds.length ds.length (some (k : Int)) = min k ds.length := by
    unfold HT.sIx
    simp
    omega
  rw [e2, Nat.min_eq_left h]
variable {env : R.Env} {iw ix isrc k : Nat} {src q : A}
theorem cond_val {b : Bool} (h1 : env[iw]? = some (some (.val (.str x)))) (h2 : env[ix]? = some (some (.val (.int k)))) (h3 : env[isrc]? = some (some src)) (hx : PyData.strOk x = true) (h4 : hSlA src none (some (k : Int)) S = .ok q S) (h5 : hIn (.val (.str x)) q S = .ok (.val (.bl b)) S) :
    condE iw ix isrc env S = .ok (!decide (x ∈ W5) || b) S := by
  have e : eSlA (eVar isrc) oNone (oSome (eVar ix)) env S = .ok q S := by
    unfold eSlA
    rw [z_var, h3, z_kVar, z_bind_ok]
    show (oSome (eVar ix) env S).bind _ = _
    have : oSome (eVar ix) env S = .ok (some (k : Int)) S := by
      unfold oSome
      rw [z_var, h2, z_kVar, z_bind_ok]
    rw [this, z_bind_ok]
    exact h4
  unfold condE
  by_cases hw : x ∈ W5
  · simp only [z_bind_ok, z_bindS_ok, z_C, z_var, z_kVar, z_op, z_kOp, z_un, z_nil, z_cons, z_kCons, z_kCons2, z_app, z_bool, z_kBool, z_and, z_kAnd_t, z_kAnd_f, z_or, z_kOr_t, z_kOr_f, z_not, z_kNot, z_andE, z_kAndE_t, z_kAndE_f, z_orE, z_kOrE_t, z_kOrE_f, z_ifE, z_kIfE_t, z_kIfE_f, z_frz, z_frz_v, z_seq, z_seq_nx, z_seq_rt, z_seq_bk, z_seq_ct, z_drop, z_kDrop, z_ret, z_kRet, z_retN, z_set, z_kSet, z_if, z_kIf_t, z_kIf_f, z_par, z_kPar, z_asg, z_kAsg, z_kAsg2, z_next, z_break, z_cont, z_gSet, z_for_nil, z_for_cons, z_kFor, z_kFor_nx, z_kFor_ct, z_kFor_bk, z_kFor_rt, z_forI, z_kForI, List.getElem?_cons_zero, List.getElem?_cons_succ, List.set_cons_zero, List.set_cons_succ, h1, isw_str hx, e, h5, decide_eq_true hw, Bool.not_true, Bool.false_or]
  · simp only [z_bind_ok, z_bindS_ok, z_C, z_var, z_kVar, z_op, z_kOp, z_un, z_nil, z_cons, z_kCons, z_kCons2, z_app, z_bool, z_kBool, z_and, z_kAnd_t, z_kAnd_f, z_or, z_kOr_t, z_kOr_f, z_not, z_kNot, z_andE, z_kAndE_t, z_kAndE_f, z_orE, z_kOrE_t, z_kOrE_f, z_ifE, z_kIfE_t, z_kIfE_f, z_frz, z_frz_v, z_seq, z_seq_nx, z_seq_rt, z_seq_bk, z_seq_ct, z_drop, z_kDrop, z_ret, z_kRet, z_retN, z_set, z_kSet, z_if, z_kIf_t, z_kIf_f, z_par, z_kPar, z_asg, z_kAsg, z_kAsg2, z_next, z_break, z_cont, z_gSet, z_for_nil, z_for_cons, z_kFor, z_kFor_nx, z_kFor_ct, z_kFor_bk, z_kFor_rt, z_forI, z_kForI, List.getElem?_cons_zero, List.getElem?_cons_succ, List.set_cons_zero, List.set_cons_succ, h1, isw_str hx, e, h5, decide_eq_false hw, Bool.not_false, Bool.true_or]
theorem cond_non (h1 : env[iw]? = some (some (.val d))) (h : NonS d) : condE iw ix isrc env S = .ok true S := by
  unfold condE
  simp only [z_bind_ok, z_bindS_ok, z_C, z_var, z_kVar, z_op, z_kOp, z_un, z_nil, z_cons, z_kCons, z_kCons2, z_app, z_bool, z_kBool, z_and, z_kAnd_t, z_kAnd_f, z_or, z_kOr_t, z_kOr_f, z_not, z_kNot, z_andE, z_kAndE_t, z_kAndE_f, z_orE, z_kOrE_t, z_kOrE_f, z_ifE, z_kIfE_t, z_kIfE_f, z_frz, z_frz_v, z_seq, z_seq_nx, z_seq_rt, z_seq_bk, z_seq_ct, z_drop, z_kDrop, z_ret, z_kRet, z_retN, z_set, z_kSet, z_if, z_kIf_t, z_kIf_f, z_par, z_kPar, z_asg, z_kAsg, z_kAsg2, z_next, z_break, z_cont, z_gSet, z_for_nil, z_for_cons, z_kFor, z_kFor_nx, z_kFor_ct, z_kFor_bk, z_kFor_rt, z_forI, z_kForI, List.getElem?_cons_zero, List.getElem?_cons_succ, List.set_cons_zero, List.set_cons_succ, h1, isw_non h, Bool.not_false]
/-! the two loops -/
def nxt (ix iw : Nat) : A → Ev R.Env := gTupE 2 (gMore (gSet ix) (gMore (gSet iw) (gNone)))
structure Slots (E : Option A → Option A → R.Env) (iw ix isrc : Nat) (src : A) : Prop where
  set : ∀ a b u v, ((E a b).set ix (some u)).set iw (some v) = E (some u) (some v)
  w : ∀ u v, (E (some u) (some v))[iw]? = some (some v)
  x : ∀ u v, (E (some u) (some v))[ix]? = some (some u)
  s : ∀ a b, (E a b)[isrc]? = some (some src)
/-- the row as a list or a tuple -/
def SrcOk (src : A) (ds : List D) : Prop := src = .val (.lst ds) ∨ src = .val (.tup ds)
theorem src_cut {ds : List D} (h : SrcOk src ds) (hk : k ≤ ds.length) (hp : ds.take k = ts pre) (hpre : TxOk pre) (hx : PyData.strOk x = true) : ∃ q, hSlA src none (some (k : Int)) S = .ok q S ∧ hIn (.val (.str x)) q S = .ok (.val (.bl (decide (x ∈ pre)))) S := by
  rcases h with rfl | rfl
  · refine ⟨tl pre, ?_, hIn_l hx hpre⟩
    show Out.ok (A.val (.lst (cutD ds none (some (k : Int))))) S = _
    rw [cut_take ds k hk, hp]
  · refine ⟨tt pre, ?_, hIn_t hx hpre⟩
    show Out.ok (A.val (.tup (cutD ds none (some (k : Int))))) S = _
    rw [cut_take ds k hk, hp]
theorem nxt_ok {E : Option A → Option A → R.Env} (sl : Slots E iw ix isrc src) {a b : Option A} : nxt ix iw (.val (.tup [.int k, d])) (E a b) S = .ok (E (some (.val (.int k))) (some (.val d))) S := by
  show Out.ok (((E a b).set ix (some (.val (.int k)))).set iw (some (.val d))) S = _
  rw [sl.set]
theorem enum_drop {ds : List D} {j : Nat} (h : j < ds.length) : (enumD ds).drop j = .tup [.int (j : Nat), ds[j]] :: (enumD ds).drop (j + 1) := by
  have hl : (enumD ds).length = ds.length := by simp [enumD]
  rw [List.drop_eq_getElem_cons (by omega)]
  congr 1
  simp [enumD]
theorem loop_pre {E : Option A → Option A → R.Env} (sl : Slots E iw ix isrc src) {ds rest : List D} {r : Sv} (hs : SrcOk src ds) (hr : Row pre) (hd : ds = ts pre ++ rest) (a0 b0 : Option A) :
    ∀ j, j ≤ pre.length → ∃ a b, forD (nxt ix iw) (sIf (condE iw ix isrc) r sNext) (enumD ds) (E a0 b0) S = forD (nxt ix iw) (sIf (condE iw ix isrc) r sNext) ((enumD ds).drop j) (E a b) S
  | 0, _ => ⟨a0, b0, rfl⟩
  | j + 1, hj => by
    obtain ⟨a, b, e⟩ := loop_pre sl (r := r) hs hr hd a0 b0 j (by omega)
    have hl : pre.length ≤ ds.length := by rw [hd]; simp
    have hg : ds[j]'(by omega) = .str (pre[j]'(by omega)) := by
      subst hd
      rw [List.getElem_append_left (by simp; omega)]
      simp
    have hx := hr.tx _ (List.getElem_mem (by omega : j < pre.length))
    have ht : ds.take j = ts (pre.take j) := by
      rw [hd, List.take_append_of_le_length (by simp; omega)]
      exact (List.map_take ..).symm
    obtain ⟨q, h4, h5⟩ := src_cut (S := S) (x := pre[j]'(by omega)) hs (by omega : j ≤ ds.length) ht (fun x h => hr.tx x (List.mem_of_mem_take h)) hx
    have hn : pre[j]'(by omega) ∉ pre.take j := fun h => by
      obtain ⟨i, hi, e⟩ := List.mem_take_iff_getElem.mp h
      exact List.pairwise_iff_getElem.mp hr.nd i j (by omega) (by omega) (by omega) e
    refine ⟨some (.val (.int j)), some (.val (.str (pre[j]'(by omega)))), ?_⟩
    rw [e, enum_drop (by omega : j < ds.length), hg]
    refine for_step (nxt_ok sl) ?_
    rw [z_if, cond_val (sl.w _ _) (sl.x _ _) (sl.s _ _) hx h4 h5, decide_eq_true (hr.w5 _ (List.getElem_mem _)), decide_eq_false hn]
    rfl
theorem loop_all {E : Option A → Option A → R.Env} (sl : Slots E iw ix isrc src) {r : Sv} (hs : SrcOk src (ts w)) (hr : Row w) (a0 b0 : Option A) :
    ∃ a b, forD (nxt ix iw) (sIf (condE iw ix isrc) r sNext) (enumD (ts w)) (E a0 b0) S = .ok (.nx (E a b)) S := by
  obtain ⟨a, b, e⟩ := loop_pre sl (r := r) (S := S) hs hr (List.append_nil _).symm a0 b0 w.length (Nat.le_refl _)
  refine ⟨a, b, ?_⟩
  rw [e, List.drop_of_length_le (by simp [enumD])]
  rfl
theorem loop_bad {E : Option A → Option A → R.Env} (sl : Slots E iw ix isrc src) {ds post : List D} {r : Sv} (hs : SrcOk src ds) (hr : Row pre) (hd : ds = ts pre ++ d :: post) (hb : BadAt pre d) (a0 b0 : Option A) {c : Nat} {ns : List Str} {vs : List D}
    (hq : r (E (some (.val (.int pre.length))) (some (.val d))) S = .exc c ns vs (E (some (.val (.int pre.length))) (some (.val d))) S) :
    ∃ env', forD (nxt ix iw) (sIf (condE iw ix isrc) r sNext) (enumD ds) (E a0 b0) S = .exc c ns vs env' S := by
  obtain ⟨a, b, e⟩ := loop_pre sl (r := r) (S := S) hs hr hd a0 b0 pre.length (Nat.le_refl _)
  have hl : pre.length < ds.length := by rw [hd]; simp
  have hg : ds[pre.length]'hl = d := by
    subst hd
    rw [List.getElem_append_right (by simp)]
    simp
  have ht : ds.take pre.length = ts pre := by
    rw [hd, List.take_left' (by simp)]
  refine ⟨E (some (.val (.int pre.length))) (some (.val d)), ?_⟩
  rw [e, enum_drop hl, hg, z_for_cons, nxt_ok sl, z_bindS_ok, z_kFor, z_if]
  have hc : condE iw ix isrc (E (some (.val (.int pre.length))) (some (.val d))) S = .ok true S := by
    rcases hb with hb | ⟨x, rfl, hx, hb⟩
    · exact cond_non (sl.w _ _) hb
    · obtain ⟨q, h4, h5⟩ := src_cut (S := S) (x := x) hs (Nat.le_of_lt hl) ht hr.tx hx
      rw [cond_val (sl.w _ _) (sl.x _ _) (sl.s _ _) hx h4 h5]
      congr 1
      by_cases h1 : x ∈ W5
      · rcases hb with hb | hb
        · exact absurd h1 hb
        · rw [decide_eq_true hb, Bool.or_true]
      · rw [decide_eq_false h1]
        rfl
  rw [hc, z_bindS_ok, z_kIf_t, hq]
  rfl
end
end Lw


namespace Lw
open PySem L2 R
section
variable {S : Store} {x : Str} {d : D} {w pre : List Str}
theorem vals_map : ∀ ds : List D, vals? (ds.map A.val) = some ds
  | [] => rfl
  | d :: ds => by
    show (vals? (ds.map A.val)).map (d :: ·) = _
    rw [vals_map ds]
    rfl
abbrev new11 : Option Con := some (.ins 11 [] [])
theorem star_init {ds : List D} {p : Nat} {S1 : Store} (h : ds.length ≤ 100000) : starG 1 g_Order___init__ (.loc p :: ds.map A.val) S1 = g_Order___init__ [.loc p, .val (.tup ds)] S1 := by
  unfold starG
  rw [show (A.loc p :: ds.map A.val).drop 1 = ds.map A.val from rfl, vals_map]
  dsimp only
  rw [if_pos ⟨by simp, h⟩]
  rfl
theorem est4 {a b : A} : startE 4 [a, b] = [some a, some b, none, none] := rfl
theorem slots_init (p : Nat) (src : A) : Slots (fun a b => [some (.loc p), some src, a, b]) 3 2 1 src := ⟨fun _ _ _ _ => rfl, fun _ _ => rfl, fun _ _ => rfl, fun _ _ => rfl⟩
theorem slots_read (c t src : A) : Slots (fun a b => [some c, some t, some src, a, b]) 4 3 2 src := ⟨fun _ _ _ _ => rfl, fun _ _ => rfl, fun _ _ => rfl, fun _ _ => rfl⟩
theorem hLen_t {ds : List D} : hLen [.val (.tup ds)] S = .ok (.val (.int ds.length)) S := rfl
def loopI : Sv := sFor (iEnumT (eCons (eVar 1) (eNil))) (nxt 2 3) (sIf (condE 3 2 1) (sRaise 5 ["part"] (eCons (eVar 2) (eNil))) sNext)
def fldI : Sv := sFldE ct "words" (eVar 0) (eVar 1)
theorem init_eq : e_Order___init__ = sSeq (sIf (tBool (eOp hEq (eApp hLen (eCons (eVar 1) (eNil))) (eC (.int 0)))) (sRaise 5 ["part"] (eCons (eC (.str "words")) (eNil))) (sNext)) (sSeq loopI fldI) := rfl
theorem enumT_t {ds : List D} {env : R.Env} (h : env[1]? = some (some (.val (.tup ds)))) : iEnumT (eCons (eVar 1) eNil) env S = .ok (enumD ds) S := by
  unfold iEnumT
  simp only [z_bind_ok, z_bindS_ok, z_C, z_var, z_kVar, z_op, z_kOp, z_un, z_nil, z_cons, z_kCons, z_kCons2, z_app, z_bool, z_kBool, z_and, z_kAnd_t, z_kAnd_f, z_or, z_kOr_t, z_kOr_f, z_not, z_kNot, z_andE, z_kAndE_t, z_kAndE_f, z_orE, z_kOrE_t, z_kOrE_f, z_ifE, z_kIfE_t, z_kIfE_f, z_frz, z_frz_v, z_seq, z_seq_nx, z_seq_rt, z_seq_bk, z_seq_ct, z_drop, z_kDrop, z_ret, z_kRet, z_retN, z_set, z_kSet, z_if, z_kIf_t, z_kIf_f, z_par, z_kPar, z_asg, z_kAsg, z_kAsg2, z_next, z_break, z_cont, z_gSet, z_for_nil, z_for_cons, z_kFor, z_kFor_nx, z_kFor_ct, z_kFor_bk, z_kFor_rt, z_forI, z_kForI, List.getElem?_cons_zero, List.getElem?_cons_succ, List.set_cons_zero, List.set_cons_succ, h]
  rfl
theorem init_ok (hr : Row w) (hne : w ≠ []) (hl : w.length ≤ 100) : kMake 11 (starG 1 g_Order___init__) ((ts w).map A.val) S = .ok (od w) S := by
  unfold kMake
  rw [star_init (by simp; omega)]
  show (defF 4 e_Order___init__ _ _).bind _ = _
  have hlen : ((ts w).length : Int) ≠ 0 := by
    have := List.length_pos_iff.mpr hne
    simp
    omega
  obtain ⟨a, b, e⟩ := loop_all (S := S ++ [new11]) (r := sRaise 5 ["part"] (eCons (eVar 2) (eNil))) (slots_init S.length (tt w)) (.inr rfl) hr none none
  have eF : fldI [some (.loc S.length), some (tt w), a, b] (S ++ [new11]) = .ok (.nx [some (.loc S.length), some (tt w), a, b]) (S ++ [some (.ins 11 ["words"] [.tup (ts w)])]) := by
    unfold fldI sFldE kFld kFld2
    simp only [z_bind_ok, z_bindS_ok, z_C, z_var, z_kVar, z_op, z_kOp, z_un, z_nil, z_cons, z_kCons, z_kCons2, z_app, z_bool, z_kBool, z_and, z_kAnd_t, z_kAnd_f, z_or, z_kOr_t, z_kOr_f, z_not, z_kNot, z_andE, z_kAndE_t, z_kAndE_f, z_orE, z_kOrE_t, z_kOrE_f, z_ifE, z_kIfE_t, z_kIfE_f, z_frz, z_frz_v, z_seq, z_seq_nx, z_seq_rt, z_seq_bk, z_seq_ct, z_drop, z_kDrop, z_ret, z_kRet, z_retN, z_set, z_kSet, z_if, z_kIf_t, z_kIf_f, z_par, z_kPar, z_asg, z_kAsg, z_kAsg2, z_next, z_break, z_cont, z_gSet, z_for_nil, z_for_cons, z_kFor, z_kFor_nx, z_kFor_ct, z_kFor_bk, z_kFor_rt, z_forI, z_kForI, List.getElem?_cons_zero, List.getElem?_cons_succ, List.set_cons_zero, List.set_cons_succ, List.getElem?_append_right (Nat.le_refl _), Nat.sub_self]
    have ea : atLoc (S ++ [new11]) (.loc S.length) = some (S.length, .ins 11 [] []) := by
      have e0 : (S ++ [new11])[S.length]? = some new11 := by
        rw [List.getElem?_append_right (Nat.le_refl _), Nat.sub_self]
        rfl
      unfold atLoc
      dsimp only
      rw [e0]
    simp only [ea]
    rw [if_pos (by decide +kernel)]
    rw [List.set_append_right _ _ (Nat.le_refl _), Nat.sub_self]
    rfl
  have eL : loopI [some (.loc S.length), some (tt w), none, none] (S ++ [new11]) = .ok (.nx [some (.loc S.length), some (tt w), a, b]) (S ++ [new11]) := by
    unfold loopI
    rw [z_for, enumT_t rfl, z_bindS_ok]
    exact e
  rw [z_def, est4, init_eq]
  simp only [z_bind_ok, z_bindS_ok, z_C, z_var, z_kVar, z_op, z_kOp, z_un, z_nil, z_cons, z_kCons, z_kCons2, z_app, z_bool, z_kBool, z_and, z_kAnd_t, z_kAnd_f, z_or, z_kOr_t, z_kOr_f, z_not, z_kNot, z_andE, z_kAndE_t, z_kAndE_f, z_orE, z_kOrE_t, z_kOrE_f, z_ifE, z_kIfE_t, z_kIfE_f, z_frz, z_frz_v, z_seq, z_seq_nx, z_seq_rt, z_seq_bk, z_seq_ct, z_drop, z_kDrop, z_ret, z_kRet, z_retN, z_set, z_kSet, z_if, z_kIf_t, z_kIf_f, z_par, z_kPar, z_asg, z_kAsg, z_kAsg2, z_next, z_break, z_cont, z_gSet, z_for_nil, z_for_cons, z_kFor, z_kFor_nx, z_kFor_ct, z_kFor_bk, z_kFor_rt, z_forI, z_kForI, List.getElem?_cons_zero, List.getElem?_cons_succ, List.set_cons_zero, List.set_cons_succ, hLen_t, hEq_i, beq_eq_false_iff_ne.mpr hlen, eL, eF]
  unfold kDef
  dsimp only
  rw [z_bind_ok]
  unfold kMade
  simp [List.take_of_length_le]
theorem init_bad {ds post : List D} (hd : ds = ts pre ++ d :: post) (hr : Row pre) (hb : BadAt pre d) (hl : ds.length ≤ 100) : kMake 11 (starG 1 g_Order___init__) (ds.map A.val) S = .exc 5 ["part"] [.int pre.length] (S ++ [new11]) := by
  unfold kMake
  rw [star_init (by omega)]
  show (defF 4 e_Order___init__ _ _).bind _ = _
  have hlen : (ds.length : Int) ≠ 0 := by
    rw [hd]
    simp
    omega
  obtain ⟨env', e⟩ := loop_bad (S := S ++ [new11]) (r := sRaise 5 ["part"] (eCons (eVar 2) (eNil))) (slots_init S.length (.val (.tup ds))) (.inr rfl) hr hd hb none none (c := 5) (ns := ["part"]) (vs := [.int pre.length]) rfl
  have eL : loopI [some (.loc S.length), some (.val (.tup ds)), none, none] (S ++ [new11]) = .exc 5 ["part"] [.int pre.length] env' (S ++ [new11]) := by
    unfold loopI
    rw [z_for, enumT_t rfl, z_bindS_ok]
    exact e
  rw [z_def, est4, init_eq]
  simp only [z_bind_ok, z_bindS_ok, z_C, z_var, z_kVar, z_op, z_kOp, z_un, z_nil, z_cons, z_kCons, z_kCons2, z_app, z_bool, z_kBool, z_and, z_kAnd_t, z_kAnd_f, z_or, z_kOr_t, z_kOr_f, z_not, z_kNot, z_andE, z_kAndE_t, z_kAndE_f, z_orE, z_kOrE_t, z_kOrE_f, z_ifE, z_kIfE_t, z_kIfE_f, z_frz, z_frz_v, z_seq, z_seq_nx, z_seq_rt, z_seq_bk, z_seq_ct, z_drop, z_kDrop, z_ret, z_kRet, z_retN, z_set, z_kSet, z_if, z_kIf_t, z_kIf_f, z_par, z_kPar, z_asg, z_kAsg, z_kAsg2, z_next, z_break, z_cont, z_gSet, z_for_nil, z_for_cons, z_kFor, z_kFor_nx, z_kFor_ct, z_kFor_bk, z_kFor_rt, z_forI, z_kForI, List.getElem?_cons_zero, List.getElem?_cons_succ, List.set_cons_zero, List.set_cons_succ, hLen_t, hEq_i, beq_eq_false_iff_ne.mpr hlen, eL]
  unfold OutS.seq kDef
  dsimp only
  rw [List.take_length]
  rfl
theorem init_nil : kMake 11 (starG 1 g_Order___init__) [] S = .exc 5 ["part"] [.str "words"] (S ++ [new11]) := by
  unfold kMake
  rw [show ([] : List A) = ([] : List D).map A.val from rfl, star_init (by decide)]
  show (defF 4 e_Order___init__ _ _).bind _ = _
  rw [z_def, est4, init_eq]
  simp only [z_bind_ok, z_bindS_ok, z_C, z_var, z_kVar, z_op, z_kOp, z_un, z_nil, z_cons, z_kCons, z_kCons2, z_app, z_bool, z_kBool, z_and, z_kAnd_t, z_kAnd_f, z_or, z_kOr_t, z_kOr_f, z_not, z_kNot, z_andE, z_kAndE_t, z_kAndE_f, z_orE, z_kOrE_t, z_kOrE_f, z_ifE, z_kIfE_t, z_kIfE_f, z_frz, z_frz_v, z_seq, z_seq_nx, z_seq_rt, z_seq_bk, z_seq_ct, z_drop, z_kDrop, z_ret, z_kRet, z_retN, z_set, z_kSet, z_if, z_kIf_t, z_kIf_f, z_par, z_kPar, z_asg, z_kAsg, z_kAsg2, z_next, z_break, z_cont, z_gSet, z_for_nil, z_for_cons, z_kFor, z_kFor_nx, z_kFor_ct, z_kFor_bk, z_kFor_rt, z_forI, z_kForI, List.getElem?_cons_zero, List.getElem?_cons_succ, List.set_cons_zero, List.set_cons_succ, hLen_t, hEq_i]
  show (kDef _ (OutS.exc 5 ["part"] [.str "words"] _ _)).bind _ = _
  unfold kDef
  dsimp only
  rw [List.take_length]
  rfl
/-! read -/
def loopR : Sv := sFor (iEnumT (eCons (eVar 2) (eNil))) (nxt 3 4) (sIf (condE 4 3 2) (sRaise 8 ["line", "word"] (eCons (eC (.int 0)) (eCons (eVar 3) (eNil)))) sNext)
theorem read_eq : e_Order_read = sSeq (sIf (tNotE (tBool (eApp (hIsI ct) (eCons (eVar 1) (eCons (eC (.ty "str")) (eNil)))))) (sRaise 8 ["line", "word"] (eCons (eC (.int 0)) (eCons (eC (.int 0)) (eNil)))) (sNext))
    (sSeq (sSet 2 (eBm "str" kSplit (eVar 1) (eCons (eC (.str " ")) (eNil)))) (sSeq loopR (sRet (eApp (kMake 11 (starG 1 g_Order___init__)) (eStar (eVar 2) eNil))))) := rfl
theorem est5 {a b : A} : startE 5 [a, b] = [some a, some b, none, none, none] := rfl
theorem enumT_l {ds : List D} {env : R.Env} (h : env[2]? = some (some (.val (.lst ds)))) : iEnumT (eCons (eVar 2) eNil) env S = .ok (enumD ds) S := by
  unfold iEnumT
  simp only [z_bind_ok, z_bindS_ok, z_C, z_var, z_kVar, z_op, z_kOp, z_un, z_nil, z_cons, z_kCons, z_kCons2, z_app, z_bool, z_kBool, z_and, z_kAnd_t, z_kAnd_f, z_or, z_kOr_t, z_kOr_f, z_not, z_kNot, z_andE, z_kAndE_t, z_kAndE_f, z_orE, z_kOrE_t, z_kOrE_f, z_ifE, z_kIfE_t, z_kIfE_f, z_frz, z_frz_v, z_seq, z_seq_nx, z_seq_rt, z_seq_bk, z_seq_ct, z_drop, z_kDrop, z_ret, z_kRet, z_retN, z_set, z_kSet, z_if, z_kIf_t, z_kIf_f, z_par, z_kPar, z_asg, z_kAsg, z_kAsg2, z_next, z_break, z_cont, z_gSet, z_for_nil, z_for_cons, z_kFor, z_kFor_nx, z_kFor_ct, z_kFor_bk, z_kFor_rt, z_forI, z_kForI, List.getElem?_cons_zero, List.getElem?_cons_succ, List.set_cons_zero, List.set_cons_succ, h]
  rfl
theorem star_l {ds : List D} {env : R.Env} {i : Nat} (h : env[i]? = some (some (.val (.lst ds)))) : eStar (eVar i) eNil env S = .ok (ds.map A.val) S := by
  unfold eStar
  simp only [z_bind_ok, z_bindS_ok, z_C, z_var, z_kVar, z_op, z_kOp, z_un, z_nil, z_cons, z_kCons, z_kCons2, z_app, z_bool, z_kBool, z_and, z_kAnd_t, z_kAnd_f, z_or, z_kOr_t, z_kOr_f, z_not, z_kNot, z_andE, z_kAndE_t, z_kAndE_f, z_orE, z_kOrE_t, z_kOrE_f, z_ifE, z_kIfE_t, z_kIfE_f, z_frz, z_frz_v, z_seq, z_seq_nx, z_seq_rt, z_seq_bk, z_seq_ct, z_drop, z_kDrop, z_ret, z_kRet, z_retN, z_set, z_kSet, z_if, z_kIf_t, z_kIf_f, z_par, z_kPar, z_asg, z_kAsg, z_kAsg2, z_next, z_break, z_cont, z_gSet, z_for_nil, z_for_cons, z_kFor, z_kFor_nx, z_kFor_ct, z_kFor_bk, z_kFor_rt, z_forI, z_kForI, List.getElem?_cons_zero, List.getElem?_cons_succ, List.set_cons_zero, List.set_cons_succ, h]
  show Out.ok (ds.map A.val ++ []) S = _
  rw [List.append_nil]
theorem star_t {ds : List D} {env : R.Env} {i : Nat} (h : env[i]? = some (some (.val (.tup ds)))) : eStar (eVar i) eNil env S = .ok (ds.map A.val) S := by
  unfold eStar
  simp only [z_bind_ok, z_bindS_ok, z_C, z_var, z_kVar, z_op, z_kOp, z_un, z_nil, z_cons, z_kCons, z_kCons2, z_app, z_bool, z_kBool, z_and, z_kAnd_t, z_kAnd_f, z_or, z_kOr_t, z_kOr_f, z_not, z_kNot, z_andE, z_kAndE_t, z_kAndE_f, z_orE, z_kOrE_t, z_kOrE_f, z_ifE, z_kIfE_t, z_kIfE_f, z_frz, z_frz_v, z_seq, z_seq_nx, z_seq_rt, z_seq_bk, z_seq_ct, z_drop, z_kDrop, z_ret, z_kRet, z_retN, z_set, z_kSet, z_if, z_kIf_t, z_kIf_f, z_par, z_kPar, z_asg, z_kAsg, z_kAsg2, z_next, z_break, z_cont, z_gSet, z_for_nil, z_for_cons, z_kFor, z_kFor_nx, z_kFor_ct, z_kFor_bk, z_kFor_rt, z_forI, z_kForI, List.getElem?_cons_zero, List.getElem?_cons_succ, List.set_cons_zero, List.set_cons_succ, h]
  show Out.ok (ds.map A.val ++ []) S = _
  rw [List.append_nil]
theorem split_e {env : R.Env} {v : List Str} (h1 : env[1]? = some (some (.val (.str (Txt.join " " v))))) (hf : (v.map (·.length)).sum + v.length * (" " : Str).length ≤ 100000) (hne : v ≠ []) (hp : ∀ p ∈ v, 32 ∉ TL.tl p) :
    eBm "str" kSplit (eVar 1) (eCons (eC (.str " ")) (eNil)) env S = .ok (tl v) S := by
  unfold eBm
  simp only [z_bind_ok, z_bindS_ok, z_C, z_var, z_kVar, z_op, z_kOp, z_un, z_nil, z_cons, z_kCons, z_kCons2, z_app, z_bool, z_kBool, z_and, z_kAnd_t, z_kAnd_f, z_or, z_kOr_t, z_kOr_f, z_not, z_kNot, z_andE, z_kAndE_t, z_kAndE_f, z_orE, z_kOrE_t, z_kOrE_f, z_ifE, z_kIfE_t, z_kIfE_f, z_frz, z_frz_v, z_seq, z_seq_nx, z_seq_rt, z_seq_bk, z_seq_ct, z_drop, z_kDrop, z_ret, z_kRet, z_retN, z_set, z_kSet, z_if, z_kIf_t, z_kIf_f, z_par, z_kPar, z_asg, z_kAsg, z_kAsg2, z_next, z_break, z_cont, z_gSet, z_for_nil, z_for_cons, z_kFor, z_kFor_nx, z_kFor_ct, z_kFor_bk, z_kFor_rt, z_forI, z_kForI, List.getElem?_cons_zero, List.getElem?_cons_succ, List.set_cons_zero, List.set_cons_succ, h1]
  unfold kBm
  rw [if_pos (show bty S (.val (.str (Txt.join " " v))) = some "str" from rfl)]
  simp only [z_bind_ok, z_bindS_ok, z_C, z_var, z_kVar, z_op, z_kOp, z_un, z_nil, z_cons, z_kCons, z_kCons2, z_app, z_bool, z_kBool, z_and, z_kAnd_t, z_kAnd_f, z_or, z_kOr_t, z_kOr_f, z_not, z_kNot, z_andE, z_kAndE_t, z_kAndE_f, z_orE, z_kOrE_t, z_kOrE_f, z_ifE, z_kIfE_t, z_kIfE_f, z_frz, z_frz_v, z_seq, z_seq_nx, z_seq_rt, z_seq_bk, z_seq_ct, z_drop, z_kDrop, z_ret, z_kRet, z_retN, z_set, z_kSet, z_if, z_kIf_t, z_kIf_f, z_par, z_kPar, z_asg, z_kAsg, z_kAsg2, z_next, z_break, z_cont, z_gSet, z_for_nil, z_for_cons, z_kFor, z_kFor_nx, z_kFor_ct, z_kFor_bk, z_kFor_rt, z_forI, z_kForI, List.getElem?_cons_zero, List.getElem?_cons_succ, List.set_cons_zero, List.set_cons_succ, kSplit_j hf hne hp]
/-- texts of words that split back -/
structure Spl (v : List Str) : Prop where
  f : (v.map (·.length)).sum + v.length * (" " : Str).length ≤ 100000
  n : v ≠ []
  p : ∀ p ∈ v, 32 ∉ TL.tl p
theorem read_ok (hr : Row w) (hl : w.length ≤ 100) (hs : Spl w) : g_Order_read [.val (.cls 11), .val (.str (Txt.join " " w))] S = .ok (od w) S := by
  show defF 5 e_Order_read _ _ = _
  obtain ⟨a, b, e⟩ := loop_all (S := S) (r := sRaise 8 ["line", "word"] (eCons (eC (.int 0)) (eCons (eVar 3) (eNil)))) (slots_read (.val (.cls 11)) (.val (.str (Txt.join " " w))) (tl w)) (.inl rfl) hr none none
  have eL : loopR [some (.val (.cls 11)), some (.val (.str (Txt.join " " w))), some (tl w), none, none] S = .ok (.nx [some (.val (.cls 11)), some (.val (.str (Txt.join " " w))), some (tl w), a, b]) S := by
    unfold loopR
    rw [z_for, enumT_l rfl, z_bindS_ok]
    exact e
  rw [z_def, est5, read_eq]
  simp only [z_bind_ok, z_bindS_ok, z_C, z_var, z_kVar, z_op, z_kOp, z_un, z_nil, z_cons, z_kCons, z_kCons2, z_app, z_bool, z_kBool, z_and, z_kAnd_t, z_kAnd_f, z_or, z_kOr_t, z_kOr_f, z_not, z_kNot, z_andE, z_kAndE_t, z_kAndE_f, z_orE, z_kOrE_t, z_kOrE_f, z_ifE, z_kIfE_t, z_kIfE_f, z_frz, z_frz_v, z_seq, z_seq_nx, z_seq_rt, z_seq_bk, z_seq_ct, z_drop, z_kDrop, z_ret, z_kRet, z_retN, z_set, z_kSet, z_if, z_kIf_t, z_kIf_f, z_par, z_kPar, z_asg, z_kAsg, z_kAsg2, z_next, z_break, z_cont, z_gSet, z_for_nil, z_for_cons, z_kFor, z_kFor_nx, z_kFor_ct, z_kFor_bk, z_kFor_rt, z_forI, z_kForI, List.getElem?_cons_zero, List.getElem?_cons_succ, List.set_cons_zero, List.set_cons_succ, isI_str, Bool.not_true, split_e (S := S) (env := [some (.val (.cls 11)), some (.val (.str (Txt.join " " w))), none, none, none]) rfl hs.f hs.n hs.p, eL, star_l (S := S) (i := 2) (env := [some (.val (.cls 11)), some (.val (.str (Txt.join " " w))), some (tl w), a, b]) rfl, init_ok hr hs.n hl, z_kDef_v, List.take_length]
theorem read_bad {v post : List Str} {x : Str} (hv : v = pre ++ x :: post) (hs : Spl v) (hr : Row pre) (hb : BadAt pre (.str x)) : g_Order_read [.val (.cls 11), .val (.str (Txt.join " " v))] S = .exc 8 ["line", "word"] [.int 0, .int pre.length] S := by
  show defF 5 e_Order_read _ _ = _
  have hd : ts v = ts pre ++ .str x :: ts post := by
    rw [hv]
    simp
  obtain ⟨env', e⟩ := loop_bad (S := S) (r := sRaise 8 ["line", "word"] (eCons (eC (.int 0)) (eCons (eVar 3) (eNil)))) (slots_read (.val (.cls 11)) (.val (.str (Txt.join " " v))) (tl v)) (.inl rfl) hr hd hb none none (c := 8) (ns := ["line", "word"]) (vs := [.int 0, .int pre.length]) rfl
  have eL : loopR [some (.val (.cls 11)), some (.val (.str (Txt.join " " v))), some (tl v), none, none] S = .exc 8 ["line", "word"] [.int 0, .int pre.length] env' S := by
    unfold loopR
    rw [z_for, enumT_l rfl, z_bindS_ok]
    exact e
  rw [z_def, est5, read_eq]
  simp only [z_bind_ok, z_bindS_ok, z_C, z_var, z_kVar, z_op, z_kOp, z_un, z_nil, z_cons, z_kCons, z_kCons2, z_app, z_bool, z_kBool, z_and, z_kAnd_t, z_kAnd_f, z_or, z_kOr_t, z_kOr_f, z_not, z_kNot, z_andE, z_kAndE_t, z_kAndE_f, z_orE, z_kOrE_t, z_kOrE_f, z_ifE, z_kIfE_t, z_kIfE_f, z_frz, z_frz_v, z_seq, z_seq_nx, z_seq_rt, z_seq_bk, z_seq_ct, z_drop, z_kDrop, z_ret, z_kRet, z_retN, z_set, z_kSet, z_if, z_kIf_t, z_kIf_f, z_par, z_kPar, z_asg, z_kAsg, z_kAsg2, z_next, z_break, z_cont, z_gSet, z_for_nil, z_for_cons, z_kFor, z_kFor_nx, z_kFor_ct, z_kFor_bk, z_kFor_rt, z_forI, z_kForI, List.getElem?_cons_zero, List.getElem?_cons_succ, List.set_cons_zero, List.set_cons_succ, isI_str, Bool.not_true, split_e (S := S) (env := [some (.val (.cls 11)), some (.val (.str (Txt.join " " v))), none, none, none]) rfl hs.f hs.n hs.p, eL]
  show kDef S (.exc _ _ _ _ _) = _
  unfold kDef
  dsimp only
  rw [List.take_length]
theorem read_non (h : NonS d) : g_Order_read [.val (.cls 11), .val d] S = .exc 8 ["line", "word"] [.int 0, .int 0] S := by
  show defF 5 e_Order_read _ _ = _
  rw [z_def, est5, read_eq]
  simp only [z_bind_ok, z_bindS_ok, z_C, z_var, z_kVar, z_op, z_kOp, z_un, z_nil, z_cons, z_kCons, z_kCons2, z_app, z_bool, z_kBool, z_and, z_kAnd_t, z_kAnd_f, z_or, z_kOr_t, z_kOr_f, z_not, z_kNot, z_andE, z_kAndE_t, z_kAndE_f, z_orE, z_kOrE_t, z_kOrE_f, z_ifE, z_kIfE_t, z_kIfE_f, z_frz, z_frz_v, z_seq, z_seq_nx, z_seq_rt, z_seq_bk, z_seq_ct, z_drop, z_kDrop, z_ret, z_kRet, z_retN, z_set, z_kSet, z_if, z_kIf_t, z_kIf_f, z_par, z_kPar, z_asg, z_kAsg, z_kAsg2, z_next, z_break, z_cont, z_gSet, z_for_nil, z_for_cons, z_kFor, z_kFor_nx, z_kFor_ct, z_kFor_bk, z_kFor_rt, z_forI, z_kForI, List.getElem?_cons_zero, List.getElem?_cons_succ, List.set_cons_zero, List.set_cons_succ, h S, Bool.not_false]
  show kDef S (.exc _ _ _ _ _) = _
  unfold kDef
  dsimp only
  rw [List.take_length]
end
end Lw


namespace Lw
open PySem L2 R
section
variable {S : Store} {x : Str} {d : D} {w pre : List Str}
/-! a list of e for d in ds if p -/
theorem lcD_ok {n : Nat} {g : A → Ev R.Env} {t : Ev Bool} {te : Ev A} {env : R.Env} {p : D → Bool} {f : D → D} {S : Store} (hn : S.length = n) : ∀ (ds acc : List D), acc.length + ds.length ≤ 1000 →
    (∀ d ∈ ds, ∀ S1, ∃ env1, g (.val d) env S1 = .ok env1 S1 ∧ t env1 S1 = .ok (p d) S1 ∧ (p d = true → te env1 S1 = .ok (.val (f d)) S1)) →
    lcD n g t te env ds (S ++ [some (.lst acc)]) = .ok () (S ++ [some (.lst (acc ++ (ds.filter p).map f))])
  | [], acc, _, _ => by simp [lcD]
  | d :: ds, acc, hl, h => by
    obtain ⟨env1, h1, h2, h3⟩ := h d (List.mem_cons_self ..) (S ++ [some (.lst acc)])
    have hr := fun acc' (hl' : acc'.length + ds.length ≤ 1000) => lcD_ok (g := g) (t := t) (te := te) (env := env) (p := p) (f := f) hn ds acc' hl' fun d' hd' => h d' (List.mem_cons_of_mem _ hd')
    simp only [List.length_cons] at hl
    unfold lcD
    rw [h1]
    unfold noExc
    dsimp only
    rw [z_bind_ok, h2]
    dsimp only
    rw [z_bind_ok]
    cases hp : p d with
    | false =>
      dsimp only
      rw [hr acc (by omega), List.filter_cons, hp]
      rfl
    | true =>
      dsimp only
      rw [h3 hp]
      dsimp only
      rw [z_bind_ok]
      have e : (S ++ [some (Con.lst acc)])[n]? = some (some (.lst acc)) := by
        rw [← hn, List.getElem?_append_right (Nat.le_refl _), Nat.sub_self]
        rfl
      rw [e]
      dsimp only
      rw [if_pos (by omega), ← hn, List.set_append_right _ _ (Nat.le_refl _), Nat.sub_self]
      show lcD S.length g t te env ds (S ++ [some (.lst (acc ++ [f d]))]) = _
      rw [hn, hr _ (by simp; omega), List.filter_cons, hp]
      simp
theorem lc_ok {vs : List Nat} {src : Ev (List D)} {g : A → Ev R.Env} {t : Ev Bool} {te : Ev A} {env : R.Env} {ds : List D} {p : D → Bool} {f : D → D} {S0 : Store} (hs : src env S0 = .ok ds S) (hl : ds.length ≤ 1000)
    (h : ∀ d ∈ ds, ∀ S1, ∃ env1, g (.val d) (wipeE env vs) S1 = .ok env1 S1 ∧ t env1 S1 = .ok (p d) S1 ∧ (p d = true → te env1 S1 = .ok (.val (f d)) S1)) :
    eLc vs src g t te env S0 = .ok (.val (.lst ((ds.filter p).map f))) S := by
  unfold eLc
  rw [hs, z_bind_ok, lcD_ok (p := p) (f := f) rfl ds [] (by simpa using hl) h, z_bind_ok]
  unfold lcEnd
  rw [List.getElem?_append_right (Nat.le_refl _), Nat.sub_self]
  simp
/-! made -/
theorem made1 {a : D} : e__law_made (startE 6 [.val (.lst [a])]) S = ((kMake 11 (starG 1 g_Order___init__) [.val a] S).bindS [some (.val (.lst [a])), some (.val a), some (.val .non), some (.val .non), some (.val .non), some (.val .non)] kRet).seq (sSeq e__law_made_2 e__law_made_3) := by kernel_rfl
theorem made2 {a b : D} : e__law_made (startE 6 [.val (.lst [a, b])]) S = ((kMake 11 (starG 1 g_Order___init__) [.val a, .val b] S).bindS [some (.val (.lst [a, b])), some (.val a), some (.val b), some (.val .non), some (.val .non), some (.val .non)] kRet).seq (sSeq e__law_made_2 e__law_made_3) := by kernel_rfl
theorem made3 {a b c : D} : e__law_made (startE 6 [.val (.lst [a, b, c])]) S = ((kMake 11 (starG 1 g_Order___init__) [.val a, .val b, .val c] S).bindS [some (.val (.lst [a, b, c])), some (.val a), some (.val b), some (.val c), some (.val .non), some (.val .non)] kRet).seq e__law_made_3 := by kernel_rfl
theorem made4 {a b c d : D} : e__law_made (startE 6 [.val (.lst [a, b, c, d])]) S = (kMake 11 (starG 1 g_Order___init__) [.val a, .val b, .val c, .val d] S).bindS [some (.val (.lst [a, b, c, d])), some (.val a), some (.val b), some (.val c), some (.val d), some (.val .non)] kRet := by kernel_rfl
theorem made5 {a b c d e : D} : e__law_made (startE 6 [.val (.lst [a, b, c, d, e])]) S = (kMake 11 (starG 1 g_Order___init__) [.val a, .val b, .val c, .val d, .val e] S).bindS [some (.val (.lst [a, b, c, d, e])), some (.val a), some (.val b), some (.val c), some (.val d), some (.val e)] kRet := by kernel_rfl
theorem made_to {ds : List D} (h0 : ds ≠ []) (h5 : ds.length ≤ 5) : ∃ (env : R.Env) (F : OutS → OutS), (∀ a S', F (.ok (.rt a) S') = .ok (.rt a) S') ∧ (∀ c ns vs env S', F (.exc c ns vs env S') = .exc c ns vs env S') ∧ e__law_made (startE 6 [.val (.lst ds)]) S = F ((kMake 11 (starG 1 g_Order___init__) (ds.map A.val) S).bindS env kRet) := by
  match ds, h0, h5 with
  | [a], _, _ => exact ⟨_, fun o => o.seq _, fun _ _ => rfl, fun _ _ _ _ _ => rfl, made1⟩
  | [a, b], _, _ => exact ⟨_, fun o => o.seq _, fun _ _ => rfl, fun _ _ _ _ _ => rfl, made2⟩
  | [a, b, c], _, _ => exact ⟨_, fun o => o.seq _, fun _ _ => rfl, fun _ _ _ _ _ => rfl, made3⟩
  | [a, b, c, d], _, _ => exact ⟨_, fun o => o, fun _ _ => rfl, fun _ _ _ _ _ => rfl, made4⟩
  | [a, b, c, d, e], _, _ => exact ⟨_, fun o => o, fun _ _ => rfl, fun _ _ _ _ _ => rfl, made5⟩
theorem made_ok (hr : Row w) (hne : w ≠ []) (h5 : w.length ≤ 5) : callG 1 g__law_made [] [tl w] S = .ok (od w) S := by
  show defF 6 e__law_made [_] S = _
  obtain ⟨env, F, f1, f2, e⟩ := made_to (S := S) (ds := ts w) (by simpa using hne) (by simpa using h5)
  rw [z_def, e, init_ok hr hne (by omega), z_bindS_ok, z_kRet, f1, z_kDef_v, List.take_length]
theorem made_bad {ds post : List D} (hd : ds = ts pre ++ d :: post) (hr : Row pre) (hb : BadAt pre d) (h5 : ds.length ≤ 5) : callG 1 g__law_made [] [.val (.lst ds)] S = .exc 5 ["part"] [.int pre.length] S := by
  show defF 6 e__law_made [_] S = _
  obtain ⟨env, F, f1, f2, e⟩ := made_to (S := S) (ds := ds) (by rw [hd]; simp) h5
  rw [z_def, e, init_bad hd hr hb (by omega), z_bindS_exc, f2]
  show Out.exc _ _ _ _ = _
  rw [List.take_left]
end
end Lw


namespace Lw
open PySem L2 R
section
variable {S : Store} {x y : Str} {d : D} {w v pre : List Str}
theorem at_od : hAttr ct "words" (od w) S = .ok (tt w) S := by kernel_rfl
theorem est2 {a b : A} : startE 2 [a, b] = [some a, some b] := rfl
theorem est3 {a b : A} : startE 3 [a, b] = [some a, some b, none] := rfl
theorem est3c {a b c : A} : startE 3 [a, b, c] = [some a, some b, some c] := rfl
theorem est2u {a : A} : startE 2 [a] = [some a, none] := rfl
/-! the methods -/
theorem m_len : callG 1 g_Order___len__ [] [od w] S = .ok (.val (.int w.length)) S := by
  rw [z_call (as := [od w]) (n := 1) rfl]
  show defF 1 e_Order___len__ [od w] S = _
  rw [z_def, est1]
  unfold e_Order___len__
  simp only [z_bind_ok, z_bindS_ok, z_C, z_var, z_kVar, z_op, z_kOp, z_un, z_nil, z_cons, z_kCons, z_kCons2, z_app, z_bool, z_kBool, z_and, z_kAnd_t, z_kAnd_f, z_or, z_kOr_t, z_kOr_f, z_not, z_kNot, z_andE, z_kAndE_t, z_kAndE_f, z_orE, z_kOrE_t, z_kOrE_f, z_ifE, z_kIfE_t, z_kIfE_f, z_frz, z_frz_v, z_seq, z_seq_nx, z_seq_rt, z_seq_bk, z_seq_ct, z_drop, z_kDrop, z_ret, z_kRet, z_retN, z_set, z_kSet, z_if, z_kIf_t, z_kIf_f, z_par, z_kPar, z_asg, z_kAsg, z_kAsg2, z_next, z_break, z_cont, z_gSet, z_for_nil, z_for_cons, z_kFor, z_kFor_nx, z_kFor_ct, z_kFor_bk, z_kFor_rt, z_forI, z_kForI, List.getElem?_cons_zero, List.getElem?_cons_succ, List.set_cons_zero, List.set_cons_succ, at_od, hLen_t, z_kDef_v, List.take_length, List.length_map]
theorem d_len (h : w.length ≤ 100) : hTbC tb_len_1 hOwnLen hLen [od w] S = .ok (.val (.int w.length)) S := by
  have e : hTbC tb_len_1 hOwnLen hLen [od w] S = (callG 1 g_Order___len__ [] [od w] S).bind kLen := by kernel_rfl
  rw [e, m_len, z_bind_ok]
  unfold kLen
  dsimp only
  rw [if_pos (by omega)]
theorem d_lenL {ds : List D} : hTbC tb_len_1 hOwnLen hLen [.val (.lst ds)] S = .ok (.val (.int ds.length)) S := rfl
theorem d_lenT {ds : List D} : hTbC tb_len_1 hOwnLen hLen [.val (.tup ds)] S = .ok (.val (.int ds.length)) S := rfl
def NonI (d : D) : Prop := ∀ S : Store, callG 1 g_is_integer [] [.val d] S = .ok (.val (.bl false)) S
theorem isi_int {k : Int} : callG 1 g_is_integer [] [.val (.int k)] S = .ok (.val (.bl true)) S := by
  have e : callG 1 g_is_integer [] [.val (.int k)] S = .ok (.val (.bl true)) (S.take S.length) := by kernel_rfl
  rw [e, List.take_length]
theorem isb_int {k m : Int} : callG 3 g_is_between [] [.val (.int k), .val (.int 0), .val (.int m)] S = .ok (.val (.bl (decide (0 ≤ k) && decide (k ≤ m)))) S := by
  show defF 3 e_is_between [_, _, _] S = _
  have ec : eChain hLe hLe (eVar 1) (eVar 0) (eVar 2) [some (.val (.int k)), some (.val (.int 0)), some (.val (.int m))] S = .ok (.val (.bl (decide (0 ≤ k) && decide (k ≤ m)))) S := by
    unfold eChain
    simp only [z_bind_ok, z_bindS_ok, z_C, z_var, z_kVar, z_op, z_kOp, z_un, z_nil, z_cons, z_kCons, z_kCons2, z_app, z_bool, z_kBool, z_and, z_kAnd_t, z_kAnd_f, z_or, z_kOr_t, z_kOr_f, z_not, z_kNot, z_andE, z_kAndE_t, z_kAndE_f, z_orE, z_kOrE_t, z_kOrE_f, z_ifE, z_kIfE_t, z_kIfE_f, z_frz, z_frz_v, z_seq, z_seq_nx, z_seq_rt, z_seq_bk, z_seq_ct, z_drop, z_kDrop, z_ret, z_kRet, z_retN, z_set, z_kSet, z_if, z_kIf_t, z_kIf_f, z_par, z_kPar, z_asg, z_kAsg, z_kAsg2, z_next, z_break, z_cont, z_gSet, z_for_nil, z_for_cons, z_kFor, z_kFor_nx, z_kFor_ct, z_kFor_bk, z_kFor_rt, z_forI, z_kForI, List.getElem?_cons_zero, List.getElem?_cons_succ, List.set_cons_zero, List.set_cons_succ, hLe_i]
    by_cases h : 0 ≤ k
    · rw [decide_eq_true h]
      dsimp only
      simp only [z_bind_ok, z_bindS_ok, z_C, z_var, z_kVar, z_op, z_kOp, z_un, z_nil, z_cons, z_kCons, z_kCons2, z_app, z_bool, z_kBool, z_and, z_kAnd_t, z_kAnd_f, z_or, z_kOr_t, z_kOr_f, z_not, z_kNot, z_andE, z_kAndE_t, z_kAndE_f, z_orE, z_kOrE_t, z_kOrE_f, z_ifE, z_kIfE_t, z_kIfE_f, z_frz, z_frz_v, z_seq, z_seq_nx, z_seq_rt, z_seq_bk, z_seq_ct, z_drop, z_kDrop, z_ret, z_kRet, z_retN, z_set, z_kSet, z_if, z_kIf_t, z_kIf_f, z_par, z_kPar, z_asg, z_kAsg, z_kAsg2, z_next, z_break, z_cont, z_gSet, z_for_nil, z_for_cons, z_kFor, z_kFor_nx, z_kFor_ct, z_kFor_bk, z_kFor_rt, z_forI, z_kForI, List.getElem?_cons_zero, List.getElem?_cons_succ, List.set_cons_zero, List.set_cons_succ, hLe_i, Bool.true_and]
    · rw [decide_eq_false h]
      rfl
  rw [z_def, est3c]
  unfold e_is_between
  simp only [z_bind_ok, z_bindS_ok, z_C, z_var, z_kVar, z_op, z_kOp, z_un, z_nil, z_cons, z_kCons, z_kCons2, z_app, z_bool, z_kBool, z_and, z_kAnd_t, z_kAnd_f, z_or, z_kOr_t, z_kOr_f, z_not, z_kNot, z_andE, z_kAndE_t, z_kAndE_f, z_orE, z_kOrE_t, z_kOrE_f, z_ifE, z_kIfE_t, z_kIfE_f, z_frz, z_frz_v, z_seq, z_seq_nx, z_seq_rt, z_seq_bk, z_seq_ct, z_drop, z_kDrop, z_ret, z_kRet, z_retN, z_set, z_kSet, z_if, z_kIf_t, z_kIf_f, z_par, z_kPar, z_asg, z_kAsg, z_kAsg2, z_next, z_break, z_cont, z_gSet, z_for_nil, z_for_cons, z_kFor, z_kFor_nx, z_kFor_ct, z_kFor_bk, z_kFor_rt, z_forI, z_kForI, List.getElem?_cons_zero, List.getElem?_cons_succ, List.set_cons_zero, List.set_cons_succ, isi_int, ec, z_kDef_v, List.take_length]
theorem isb_non {m : Int} (h : NonI d) : callG 3 g_is_between [] [.val d, .val (.int 0), .val (.int m)] S = .ok (.val (.bl false)) S := by
  show defF 3 e_is_between [_, _, _] S = _
  rw [z_def, est3c]
  unfold e_is_between
  simp only [z_bind_ok, z_bindS_ok, z_C, z_var, z_kVar, z_op, z_kOp, z_un, z_nil, z_cons, z_kCons, z_kCons2, z_app, z_bool, z_kBool, z_and, z_kAnd_t, z_kAnd_f, z_or, z_kOr_t, z_kOr_f, z_not, z_kNot, z_andE, z_kAndE_t, z_kAndE_f, z_orE, z_kOrE_t, z_kOrE_f, z_ifE, z_kIfE_t, z_kIfE_f, z_frz, z_frz_v, z_seq, z_seq_nx, z_seq_rt, z_seq_bk, z_seq_ct, z_drop, z_kDrop, z_ret, z_kRet, z_retN, z_set, z_kSet, z_if, z_kIf_t, z_kIf_f, z_par, z_kPar, z_asg, z_kAsg, z_kAsg2, z_next, z_break, z_cont, z_gSet, z_for_nil, z_for_cons, z_kFor, z_kFor_nx, z_kFor_ct, z_kFor_bk, z_kFor_rt, z_forI, z_kForI, List.getElem?_cons_zero, List.getElem?_cons_succ, List.set_cons_zero, List.set_cons_succ, h S, z_kDef_v, List.take_length]
theorem ix_t {k : Nat} (h : k < w.length) : hIx (tt w) (.val (.int k)) S = .ok (.val (.str w[k])) S := by
  have ea : L2.atI (ts w) (k : Int) = some (.str w[k]) := by
    unfold L2.atI ixN
    rw [if_pos (by omega), if_pos (by simp; omega)]
    simp [h]
  unfold hIx lst? tup?
  simp only [ea]
theorem m_get {k : Nat} (h : k < w.length) (hl : w.length ≤ 100) : callG 2 g_Order___getitem__ [] [od w, .val (.int k)] S = .ok (.val (.str w[k])) S := by
  show defF 2 e_Order___getitem__ [_, _] S = _
  have e1 : (decide (0 ≤ (k : Int)) && decide ((k : Int) ≤ (w.length : Int) - 1)) = true := by
    rw [decide_eq_true (by omega), decide_eq_true (by omega)]
    rfl
  rw [z_def, est2]
  unfold e_Order___getitem__
  simp only [z_bind_ok, z_bindS_ok, z_C, z_var, z_kVar, z_op, z_kOp, z_un, z_nil, z_cons, z_kCons, z_kCons2, z_app, z_bool, z_kBool, z_and, z_kAnd_t, z_kAnd_f, z_or, z_kOr_t, z_kOr_f, z_not, z_kNot, z_andE, z_kAndE_t, z_kAndE_f, z_orE, z_kOrE_t, z_kOrE_f, z_ifE, z_kIfE_t, z_kIfE_f, z_frz, z_frz_v, z_seq, z_seq_nx, z_seq_rt, z_seq_bk, z_seq_ct, z_drop, z_kDrop, z_ret, z_kRet, z_retN, z_set, z_kSet, z_if, z_kIf_t, z_kIf_f, z_par, z_kPar, z_asg, z_kAsg, z_kAsg2, z_next, z_break, z_cont, z_gSet, z_for_nil, z_for_cons, z_kFor, z_kFor_nx, z_kFor_ct, z_kFor_bk, z_kFor_rt, z_forI, z_kForI, List.getElem?_cons_zero, List.getElem?_cons_succ, List.set_cons_zero, List.set_cons_succ, at_od, d_lenT, List.length_map, hSub_i, isb_int, e1, Bool.not_true, ix_t h, z_kDef_v, List.take_length]
theorem m_getBad (h : ∀ (m : Int) (S : Store), m = (w.length : Int) - 1 → callG 3 g_is_between [] [.val d, .val (.int 0), .val (.int m)] S = .ok (.val (.bl false)) S) : callG 2 g_Order___getitem__ [] [od w, .val d] S = .exc 7 ["value"] [d] S := by
  show defF 2 e_Order___getitem__ [_, _] S = _
  rw [z_def, est2]
  unfold e_Order___getitem__
  simp only [z_bind_ok, z_bindS_ok, z_C, z_var, z_kVar, z_op, z_kOp, z_un, z_nil, z_cons, z_kCons, z_kCons2, z_app, z_bool, z_kBool, z_and, z_kAnd_t, z_kAnd_f, z_or, z_kOr_t, z_kOr_f, z_not, z_kNot, z_andE, z_kAndE_t, z_kAndE_f, z_orE, z_kOrE_t, z_kOrE_f, z_ifE, z_kIfE_t, z_kIfE_f, z_frz, z_frz_v, z_seq, z_seq_nx, z_seq_rt, z_seq_bk, z_seq_ct, z_drop, z_kDrop, z_ret, z_kRet, z_retN, z_set, z_kSet, z_if, z_kIf_t, z_kIf_f, z_par, z_kPar, z_asg, z_kAsg, z_kAsg2, z_next, z_break, z_cont, z_gSet, z_for_nil, z_for_cons, z_kFor, z_kFor_nx, z_kFor_ct, z_kFor_bk, z_kFor_rt, z_forI, z_kForI, List.getElem?_cons_zero, List.getElem?_cons_succ, List.set_cons_zero, List.set_cons_succ, at_od, d_lenT, List.length_map, hSub_i, h _ S rfl, Bool.not_false]
  show kDef S (.exc _ _ _ _ _) = _
  unfold kDef
  dsimp only
  rw [List.take_length]
theorem d_get {b : A} : hTbL tb_getitem_1 hOwnIx hIx (od w) b S = callG 2 g_Order___getitem__ [] [od w, b] S := by kernel_rfl
theorem m_in (hx : PyData.strOk x = true) (hw : TxOk w) : callG 2 g_Order___contains__ [] [od w, .val (.str x)] S = .ok (.val (.bl (decide (x ∈ w)))) S := by
  show defF 2 e_Order___contains__ [_, _] S = _
  rw [z_def, est2]
  unfold e_Order___contains__
  simp only [z_bind_ok, z_bindS_ok, z_C, z_var, z_kVar, z_op, z_kOp, z_un, z_nil, z_cons, z_kCons, z_kCons2, z_app, z_bool, z_kBool, z_and, z_kAnd_t, z_kAnd_f, z_or, z_kOr_t, z_kOr_f, z_not, z_kNot, z_andE, z_kAndE_t, z_kAndE_f, z_orE, z_kOrE_t, z_kOrE_f, z_ifE, z_kIfE_t, z_kIfE_f, z_frz, z_frz_v, z_seq, z_seq_nx, z_seq_rt, z_seq_bk, z_seq_ct, z_drop, z_kDrop, z_ret, z_kRet, z_retN, z_set, z_kSet, z_if, z_kIf_t, z_kIf_f, z_par, z_kPar, z_asg, z_kAsg, z_kAsg2, z_next, z_break, z_cont, z_gSet, z_for_nil, z_for_cons, z_kFor, z_kFor_nx, z_kFor_ct, z_kFor_bk, z_kFor_rt, z_forI, z_kForI, List.getElem?_cons_zero, List.getElem?_cons_succ, List.set_cons_zero, List.set_cons_succ, isI_str, at_od, hIn_t hx hw, z_kDef_v, List.take_length]
theorem m_inNon (h : NonS d) : callG 2 g_Order___contains__ [] [od w, .val d] S = .ok (.val (.bl false)) S := by
  show defF 2 e_Order___contains__ [_, _] S = _
  rw [z_def, est2]
  unfold e_Order___contains__
  simp only [z_bind_ok, z_bindS_ok, z_C, z_var, z_kVar, z_op, z_kOp, z_un, z_nil, z_cons, z_kCons, z_kCons2, z_app, z_bool, z_kBool, z_and, z_kAnd_t, z_kAnd_f, z_or, z_kOr_t, z_kOr_f, z_not, z_kNot, z_andE, z_kAndE_t, z_kAndE_f, z_orE, z_kOrE_t, z_kOrE_f, z_ifE, z_kIfE_t, z_kIfE_f, z_frz, z_frz_v, z_seq, z_seq_nx, z_seq_rt, z_seq_bk, z_seq_ct, z_drop, z_kDrop, z_ret, z_kRet, z_retN, z_set, z_kSet, z_if, z_kIf_t, z_kIf_f, z_par, z_kPar, z_asg, z_kAsg, z_kAsg2, z_next, z_break, z_cont, z_gSet, z_for_nil, z_for_cons, z_kFor, z_kFor_nx, z_kFor_ct, z_kFor_bk, z_kFor_rt, z_forI, z_kForI, List.getElem?_cons_zero, List.getElem?_cons_succ, List.set_cons_zero, List.set_cons_succ, h S, z_kDef_v, List.take_length]
theorem d_in {a : A} : hTbR tb_contains_1 hOwnIn hIn a (od w) S = hBool (callG 2 g_Order___contains__ [] [od w, a] S) := by kernel_rfl
theorem d_inS (hx : PyData.strOk x = true) (hw : TxOk w) : hTbR tb_contains_1 hOwnIn hIn (.val (.str x)) (od w) S = .ok (.val (.bl (decide (x ∈ w)))) S := by
  rw [d_in, m_in hx hw]
  rfl
theorem d_inN (h : NonS d) : hTbR tb_contains_1 hOwnIn hIn (.val d) (od w) S = .ok (.val (.bl false)) S := by
  rw [d_in, m_inNon h]
  rfl
theorem d_inL {a : A} {ds : List D} : hTbR tb_contains_1 hOwnIn hIn a (.val (.lst ds)) S = hIn a (.val (.lst ds)) S := rfl
theorem d_inT {a : A} {ds : List D} : hTbR tb_contains_1 hOwnIn hIn a (.val (.tup ds)) S = hIn a (.val (.tup ds)) S := rfl
theorem kd_exc {c : Nat} {ns : List Str} {vs : List D} {env : R.Env} {S' : Store} : kDef S (.exc c ns vs env S') = .exc c ns vs (S'.take S.length) := rfl
theorem m_add (hx : x ∈ W5) (hr : Row w) (hn : x ∉ w) (hl : w.length ≤ 50) : callG 2 g_Order___add__ [] [od w, .val (.str x)] S = .ok (od (w ++ [x])) S := by
  show defF 3 e_Order___add__ [_, _] S = _
  have hr2 : Row (w ++ [x]) := ⟨List.nodup_append.mpr ⟨hr.nd, by simp, fun a ha b hb => by
    rw [List.mem_singleton.mp hb]
    exact fun e => hn (e ▸ ha)⟩, fun y hy => by
    rcases List.mem_append.mp hy with h | h
    · exact hr.w5 y h
    · rw [List.mem_singleton.mp h]
      exact hx⟩
  have e0 : eStar (eUn (hAttr ct "words") (eVar 0)) (eCons (eVar 1) eNil) [some (od w), some (.val (.str x)), none] S = .ok ((ts (w ++ [x])).map A.val) S := by
    unfold eStar
    simp only [z_bind_ok, z_bindS_ok, z_C, z_var, z_kVar, z_op, z_kOp, z_un, z_nil, z_cons, z_kCons, z_kCons2, z_app, z_bool, z_kBool, z_and, z_kAnd_t, z_kAnd_f, z_or, z_kOr_t, z_kOr_f, z_not, z_kNot, z_andE, z_kAndE_t, z_kAndE_f, z_orE, z_kOrE_t, z_kOrE_f, z_ifE, z_kIfE_t, z_kIfE_f, z_frz, z_frz_v, z_seq, z_seq_nx, z_seq_rt, z_seq_bk, z_seq_ct, z_drop, z_kDrop, z_ret, z_kRet, z_retN, z_set, z_kSet, z_if, z_kIf_t, z_kIf_f, z_par, z_kPar, z_asg, z_kAsg, z_kAsg2, z_next, z_break, z_cont, z_gSet, z_for_nil, z_for_cons, z_kFor, z_kFor_nx, z_kFor_ct, z_kFor_bk, z_kFor_rt, z_forI, z_kForI, List.getElem?_cons_zero, List.getElem?_cons_succ, List.set_cons_zero, List.set_cons_succ, at_od]
    show Out.ok ((ts w).map A.val ++ [.val (.str x)]) S = _
    simp
  have eh : hLst ((ts (w ++ [x])).map A.val) S = .ok (tl (w ++ [x])) S := by
    unfold hLst
    rw [vals_map]
    dsimp only
    rw [if_pos (by simp; omega)]
  have e5 : ∀ S, callG 1 g_is_word [] [.val (.str x)] S = .ok (.val (.bl true)) S := fun S => by rw [isw_str (w5_tx x hx), decide_eq_true hx]
  rw [z_def, est3]
  unfold e_Order___add__
  simp only [z_bind_ok, z_bindS_ok, z_C, z_var, z_kVar, z_op, z_kOp, z_un, z_nil, z_cons, z_kCons, z_kCons2, z_app, z_bool, z_kBool, z_and, z_kAnd_t, z_kAnd_f, z_or, z_kOr_t, z_kOr_f, z_not, z_kNot, z_andE, z_kAndE_t, z_kAndE_f, z_orE, z_kOrE_t, z_kOrE_f, z_ifE, z_kIfE_t, z_kIfE_f, z_frz, z_frz_v, z_seq, z_seq_nx, z_seq_rt, z_seq_bk, z_seq_ct, z_drop, z_kDrop, z_ret, z_kRet, z_retN, z_set, z_kSet, z_if, z_kIf_t, z_kIf_f, z_par, z_kPar, z_asg, z_kAsg, z_kAsg2, z_next, z_break, z_cont, z_gSet, z_for_nil, z_for_cons, z_kFor, z_kFor_nx, z_kFor_ct, z_kFor_bk, z_kFor_rt, z_forI, z_kForI, List.getElem?_cons_zero, List.getElem?_cons_succ, List.set_cons_zero, List.set_cons_succ, e5, at_od, d_inT, hIn_t (w5_tx x hx) hr.tx, decide_eq_false hn, Bool.not_true, e0, eh, star_l (S := S) (i := 2) (env := [some (od w), some (.val (.str x)), some (tl (w ++ [x]))]) rfl, init_ok hr2 (by simp) (by simp; omega), z_kDef_v, List.take_length]
theorem m_addBad (hr : Row w) (hb : BadAt w d) : callG 2 g_Order___add__ [] [od w, .val d] S = .exc 5 ["part"] [.str "word"] S := by
  show defF 3 e_Order___add__ [_, _] S = _
  rw [z_def, est3]
  unfold e_Order___add__
  rcases hb with hb | ⟨x, rfl, hx, hb⟩
  · simp only [z_bind_ok, z_bindS_ok, z_C, z_var, z_kVar, z_op, z_kOp, z_un, z_nil, z_cons, z_kCons, z_kCons2, z_app, z_bool, z_kBool, z_and, z_kAnd_t, z_kAnd_f, z_or, z_kOr_t, z_kOr_f, z_not, z_kNot, z_andE, z_kAndE_t, z_kAndE_f, z_orE, z_kOrE_t, z_kOrE_f, z_ifE, z_kIfE_t, z_kIfE_f, z_frz, z_frz_v, z_seq, z_seq_nx, z_seq_rt, z_seq_bk, z_seq_ct, z_drop, z_kDrop, z_ret, z_kRet, z_retN, z_set, z_kSet, z_if, z_kIf_t, z_kIf_f, z_par, z_kPar, z_asg, z_kAsg, z_kAsg2, z_next, z_break, z_cont, z_gSet, z_for_nil, z_for_cons, z_kFor, z_kFor_nx, z_kFor_ct, z_kFor_bk, z_kFor_rt, z_forI, z_kForI, List.getElem?_cons_zero, List.getElem?_cons_succ, List.set_cons_zero, List.set_cons_succ, isw_non hb, Bool.not_false]
    rw [show sRaise 5 ["part"] (eCons (eC (.str "word")) eNil) [some (od w), some (.val d), none] S = .exc 5 ["part"] [.str "word"] [some (od w), some (.val d), none] S from rfl]
    show kDef S (.exc _ _ _ _ _) = _
    rw [kd_exc, List.take_length]
  · by_cases h5 : x ∈ W5
    · have hw : x ∈ w := by
        rcases hb with h | h
        · exact absurd h5 h
        · exact h
      simp only [z_bind_ok, z_bindS_ok, z_C, z_var, z_kVar, z_op, z_kOp, z_un, z_nil, z_cons, z_kCons, z_kCons2, z_app, z_bool, z_kBool, z_and, z_kAnd_t, z_kAnd_f, z_or, z_kOr_t, z_kOr_f, z_not, z_kNot, z_andE, z_kAndE_t, z_kAndE_f, z_orE, z_kOrE_t, z_kOrE_f, z_ifE, z_kIfE_t, z_kIfE_f, z_frz, z_frz_v, z_seq, z_seq_nx, z_seq_rt, z_seq_bk, z_seq_ct, z_drop, z_kDrop, z_ret, z_kRet, z_retN, z_set, z_kSet, z_if, z_kIf_t, z_kIf_f, z_par, z_kPar, z_asg, z_kAsg, z_kAsg2, z_next, z_break, z_cont, z_gSet, z_for_nil, z_for_cons, z_kFor, z_kFor_nx, z_kFor_ct, z_kFor_bk, z_kFor_rt, z_forI, z_kForI, List.getElem?_cons_zero, List.getElem?_cons_succ, List.set_cons_zero, List.set_cons_succ, isw_str hx, decide_eq_true h5, at_od, d_inT, hIn_t hx hr.tx, decide_eq_true hw, Bool.not_true]
      rw [show sRaise 5 ["part"] (eCons (eC (.str "word")) eNil) [some (od w), some (.val (.str x)), none] S = .exc 5 ["part"] [.str "word"] [some (od w), some (.val (.str x)), none] S from rfl]
      show kDef S (.exc _ _ _ _ _) = _
      rw [kd_exc, List.take_length]
    · simp only [z_bind_ok, z_bindS_ok, z_C, z_var, z_kVar, z_op, z_kOp, z_un, z_nil, z_cons, z_kCons, z_kCons2, z_app, z_bool, z_kBool, z_and, z_kAnd_t, z_kAnd_f, z_or, z_kOr_t, z_kOr_f, z_not, z_kNot, z_andE, z_kAndE_t, z_kAndE_f, z_orE, z_kOrE_t, z_kOrE_f, z_ifE, z_kIfE_t, z_kIfE_f, z_frz, z_frz_v, z_seq, z_seq_nx, z_seq_rt, z_seq_bk, z_seq_ct, z_drop, z_kDrop, z_ret, z_kRet, z_retN, z_set, z_kSet, z_if, z_kIf_t, z_kIf_f, z_par, z_kPar, z_asg, z_kAsg, z_kAsg2, z_next, z_break, z_cont, z_gSet, z_for_nil, z_for_cons, z_kFor, z_kFor_nx, z_kFor_ct, z_kFor_bk, z_kFor_rt, z_forI, z_kForI, List.getElem?_cons_zero, List.getElem?_cons_succ, List.set_cons_zero, List.set_cons_succ, isw_str hx, decide_eq_false h5, Bool.not_false]
      rw [show sRaise 5 ["part"] (eCons (eC (.str "word")) eNil) [some (od w), some (.val (.str x)), none] S = .exc 5 ["part"] [.str "word"] [some (od w), some (.val (.str x)), none] S from rfl]
      show kDef S (.exc _ _ _ _ _) = _
      rw [kd_exc, List.take_length]
theorem m_eq (hw : TxOk w) (hv : TxOk v) : callG 2 g_Order___eq__ [] [od w, od v] S = .ok (.val (.bl (decide (w = v)))) S := by
  show defF 2 e_Order___eq__ [_, _] S = _
  have e : ∀ S, hIsI ct [od v, .val (.cls 11)] S = .ok (.val (.bl true)) S := fun S => by kernel_rfl
  rw [z_def, est2]
  unfold e_Order___eq__
  simp only [z_bind_ok, z_bindS_ok, z_C, z_var, z_kVar, z_op, z_kOp, z_un, z_nil, z_cons, z_kCons, z_kCons2, z_app, z_bool, z_kBool, z_and, z_kAnd_t, z_kAnd_f, z_or, z_kOr_t, z_kOr_f, z_not, z_kNot, z_andE, z_kAndE_t, z_kAndE_f, z_orE, z_kOrE_t, z_kOrE_f, z_ifE, z_kIfE_t, z_kIfE_f, z_frz, z_frz_v, z_seq, z_seq_nx, z_seq_rt, z_seq_bk, z_seq_ct, z_drop, z_kDrop, z_ret, z_kRet, z_retN, z_set, z_kSet, z_if, z_kIf_t, z_kIf_f, z_par, z_kPar, z_asg, z_kAsg, z_kAsg2, z_next, z_break, z_cont, z_gSet, z_for_nil, z_for_cons, z_kFor, z_kFor_nx, z_kFor_ct, z_kFor_bk, z_kFor_rt, z_forI, z_kForI, List.getElem?_cons_zero, List.getElem?_cons_succ, List.set_cons_zero, List.set_cons_succ, e, at_od, hEq_tt hw hv, z_kDef_v, List.take_length]
theorem m_eqNon (h : ∀ S : Store, hIsI ct [.val d, .val (.cls 11)] S = .ok (.val (.bl false)) S) : callG 2 g_Order___eq__ [] [od w, .val d] S = .ok (.val (.bl false)) S := by
  show defF 2 e_Order___eq__ [_, _] S = _
  rw [z_def, est2]
  unfold e_Order___eq__
  simp only [z_bind_ok, z_bindS_ok, z_C, z_var, z_kVar, z_op, z_kOp, z_un, z_nil, z_cons, z_kCons, z_kCons2, z_app, z_bool, z_kBool, z_and, z_kAnd_t, z_kAnd_f, z_or, z_kOr_t, z_kOr_f, z_not, z_kNot, z_andE, z_kAndE_t, z_kAndE_f, z_orE, z_kOrE_t, z_kOrE_f, z_ifE, z_kIfE_t, z_kIfE_f, z_frz, z_frz_v, z_seq, z_seq_nx, z_seq_rt, z_seq_bk, z_seq_ct, z_drop, z_kDrop, z_ret, z_kRet, z_retN, z_set, z_kSet, z_if, z_kIf_t, z_kIf_f, z_par, z_kPar, z_asg, z_kAsg, z_kAsg2, z_next, z_break, z_cont, z_gSet, z_for_nil, z_for_cons, z_kFor, z_kFor_nx, z_kFor_ct, z_kFor_bk, z_kFor_rt, z_forI, z_kForI, List.getElem?_cons_zero, List.getElem?_cons_succ, List.set_cons_zero, List.set_cons_succ, h S, z_kDef_v, List.take_length]
theorem d_eq (hw : TxOk w) (hv : TxOk v) : hTbL tb_eq_1 (hOwnCmp ct) hEq (od w) (od v) S = .ok (.val (.bl (decide (w = v)))) S := by
  have e : hTbL tb_eq_1 (hOwnCmp ct) hEq (od w) (od v) S = noNI (callG 2 g_Order___eq__ [] [od w, od v] S) := by kernel_rfl
  rw [e, m_eq hw hv]
  rfl
theorem d_ne (hw : TxOk w) (hv : TxOk v) : hTbL tb_eq_1 (hOwnNe ct) hNe (od w) (od v) S = .ok (.val (.bl (!decide (w = v)))) S := by
  have e : hTbL tb_eq_1 (hOwnNe ct) hNe (od w) (od v) S = (callG 2 g_Order___eq__ [] [od w, od v] S).bind kNeg := by kernel_rfl
  rw [e, m_eq hw hv]
  rfl
theorem d_neT {ds : List D} : hTbL tb_eq_1 (hOwnNe ct) hNe (od w) (.val (.tup ds)) S = .ok (.val (.bl true)) S := by
  have e : hTbL tb_eq_1 (hOwnNe ct) hNe (od w) (.val (.tup ds)) S = (callG 2 g_Order___eq__ [] [od w, .val (.tup ds)] S).bind kNeg := by kernel_rfl
  rw [e, m_eqNon fun S => by kernel_rfl]
  rfl
theorem d_neS : hTbL tb_eq_1 (hOwnNe ct) hNe (od w) (.val (.str x)) S = .ok (.val (.bl true)) S := by
  have e : hTbL tb_eq_1 (hOwnNe ct) hNe (od w) (.val (.str x)) S = (callG 2 g_Order___eq__ [] [od w, .val (.str x)] S).bind kNeg := by kernel_rfl
  rw [e, m_eqNon fun S => by kernel_rfl]
  rfl
theorem m_inv (hr : Row w.reverse) (hne : w ≠ []) (hl : w.length ≤ 100) : callG 1 g_Order___invert__ [] [od w] S = .ok (od w.reverse) S := by
  show defF 2 e_Order___invert__ [_] S = _
  have er : hRev (tt w) S = .ok (tt w.reverse) S := by
    show Out.ok (A.val (.tup (ts w).reverse)) S = _
    simp [ts]
  rw [z_def, est2u]
  unfold e_Order___invert__
  simp only [z_bind_ok, z_bindS_ok, z_C, z_var, z_kVar, z_op, z_kOp, z_un, z_nil, z_cons, z_kCons, z_kCons2, z_app, z_bool, z_kBool, z_and, z_kAnd_t, z_kAnd_f, z_or, z_kOr_t, z_kOr_f, z_not, z_kNot, z_andE, z_kAndE_t, z_kAndE_f, z_orE, z_kOrE_t, z_kOrE_f, z_ifE, z_kIfE_t, z_kIfE_f, z_frz, z_frz_v, z_seq, z_seq_nx, z_seq_rt, z_seq_bk, z_seq_ct, z_drop, z_kDrop, z_ret, z_kRet, z_retN, z_set, z_kSet, z_if, z_kIf_t, z_kIf_f, z_par, z_kPar, z_asg, z_kAsg, z_kAsg2, z_next, z_break, z_cont, z_gSet, z_for_nil, z_for_cons, z_kFor, z_kFor_nx, z_kFor_ct, z_kFor_bk, z_kFor_rt, z_forI, z_kForI, List.getElem?_cons_zero, List.getElem?_cons_succ, List.set_cons_zero, List.set_cons_succ, at_od, er, star_t (S := S) (i := 1) (env := [some (od w), some (tt w.reverse)]) rfl, init_ok hr (by simpa using hne) (by simpa using hl), z_kDef_v, List.take_length]
theorem d_inv (hr : Row w.reverse) (hne : w ≠ []) (hl : w.length ≤ 100) : hTbU tb_invert_1 hOwnUn (fun _ _ => .bad) (od w) S = .ok (od w.reverse) S := by
  have e : hTbU tb_invert_1 hOwnUn (fun _ _ => .bad) (od w) S = callG 1 g_Order___invert__ [] [od w] S := by kernel_rfl
  rw [e, m_inv hr hne hl]
theorem m_str (hf : (w.map (·.length)).sum + w.length * (" " : Str).length ≤ 100000) : callG 1 g_Order___str__ [] [od w] S = .ok (.val (.str (Txt.join " " w))) S := by
  show defF 1 e_Order___str__ [_] S = _
  have ej : eBm "str" kJoin (eC (.str " ")) (eCons (eUn (hAttr ct "words") (eVar 0)) eNil) [some (od w)] S = .ok (.val (.str (Txt.join " " w))) S := by
    unfold eBm
    simp only [z_bind_ok, z_bindS_ok, z_C, z_var, z_kVar, z_op, z_kOp, z_un, z_nil, z_cons, z_kCons, z_kCons2, z_app, z_bool, z_kBool, z_and, z_kAnd_t, z_kAnd_f, z_or, z_kOr_t, z_kOr_f, z_not, z_kNot, z_andE, z_kAndE_t, z_kAndE_f, z_orE, z_kOrE_t, z_kOrE_f, z_ifE, z_kIfE_t, z_kIfE_f, z_frz, z_frz_v, z_seq, z_seq_nx, z_seq_rt, z_seq_bk, z_seq_ct, z_drop, z_kDrop, z_ret, z_kRet, z_retN, z_set, z_kSet, z_if, z_kIf_t, z_kIf_f, z_par, z_kPar, z_asg, z_kAsg, z_kAsg2, z_next, z_break, z_cont, z_gSet, z_for_nil, z_for_cons, z_kFor, z_kFor_nx, z_kFor_ct, z_kFor_bk, z_kFor_rt, z_forI, z_kForI, List.getElem?_cons_zero, List.getElem?_cons_succ, List.set_cons_zero, List.set_cons_succ, at_od]
    unfold kBm
    rw [if_pos (show bty S (.val (.str " ")) = some "str" from rfl)]
    simp only [z_bind_ok, z_bindS_ok, z_C, z_var, z_kVar, z_op, z_kOp, z_un, z_nil, z_cons, z_kCons, z_kCons2, z_app, z_bool, z_kBool, z_and, z_kAnd_t, z_kAnd_f, z_or, z_kOr_t, z_kOr_f, z_not, z_kNot, z_andE, z_kAndE_t, z_kAndE_f, z_orE, z_kOrE_t, z_kOrE_f, z_ifE, z_kIfE_t, z_kIfE_f, z_frz, z_frz_v, z_seq, z_seq_nx, z_seq_rt, z_seq_bk, z_seq_ct, z_drop, z_kDrop, z_ret, z_kRet, z_retN, z_set, z_kSet, z_if, z_kIf_t, z_kIf_f, z_par, z_kPar, z_asg, z_kAsg, z_kAsg2, z_next, z_break, z_cont, z_gSet, z_for_nil, z_for_cons, z_kFor, z_kFor_nx, z_kFor_ct, z_kFor_bk, z_kFor_rt, z_forI, z_kForI, List.getElem?_cons_zero, List.getElem?_cons_succ, List.set_cons_zero, List.set_cons_succ, at_od, kJoin_t hf]
  rw [z_def, est1]
  unfold e_Order___str__
  simp only [z_bind_ok, z_bindS_ok, z_C, z_var, z_kVar, z_op, z_kOp, z_un, z_nil, z_cons, z_kCons, z_kCons2, z_app, z_bool, z_kBool, z_and, z_kAnd_t, z_kAnd_f, z_or, z_kOr_t, z_kOr_f, z_not, z_kNot, z_andE, z_kAndE_t, z_kAndE_f, z_orE, z_kOrE_t, z_kOrE_f, z_ifE, z_kIfE_t, z_kIfE_f, z_frz, z_frz_v, z_seq, z_seq_nx, z_seq_rt, z_seq_bk, z_seq_ct, z_drop, z_kDrop, z_ret, z_kRet, z_retN, z_set, z_kSet, z_if, z_kIf_t, z_kIf_f, z_par, z_kPar, z_asg, z_kAsg, z_kAsg2, z_next, z_break, z_cont, z_gSet, z_for_nil, z_for_cons, z_kFor, z_kFor_nx, z_kFor_ct, z_kFor_bk, z_kFor_rt, z_forI, z_kForI, List.getElem?_cons_zero, List.getElem?_cons_succ, List.set_cons_zero, List.set_cons_succ, ej, z_kDef_v, List.take_length]
theorem d_str (hf : (w.map (·.length)).sum + w.length * (" " : Str).length ≤ 100000) : hTbC tb_str_1 hOwnStr hStrC [od w] S = .ok (.val (.str (Txt.join " " w))) S := by
  have e : hTbC tb_str_1 hOwnStr hStrC [od w] S = (callG 1 g_Order___str__ [] [od w] S).bind kStr := by kernel_rfl
  rw [e, m_str hf]
  rfl
/-! minus -/
abbrev hNeT : A → A → Store → Out A := hTbL tb_eq_1 (hOwnNe ct) (hTbR tb_eq_1 hOwnNeS hNe)
abbrev Sub (w : List Str) (d : D) (q : Str → Bool) : Prop := ∀ y ∈ w, ∀ S : Store, hNeT (.val (.str y)) (.val d) S = .ok (.val (.bl (q y))) S
theorem sub_lc {q : Str → Bool} (h : Sub w d q) (hl : w.length ≤ 100) : eLc [3] (iSeq (eUn (hAttr ct "words") (eVar 0))) (gSet 3) (tBool (eOp hNeT (eVar 3) (eVar 1))) (eVar 3) [some (od w), some (.val d), none, none] S = .ok (tl (w.filter q)) S := by
  have hs : iSeq (eUn (hAttr ct "words") (eVar 0)) [some (od w), some (.val d), none, none] S = .ok (ts w) S := by
    unfold iSeq
    simp only [z_bind_ok, z_bindS_ok, z_C, z_var, z_kVar, z_op, z_kOp, z_un, z_nil, z_cons, z_kCons, z_kCons2, z_app, z_bool, z_kBool, z_and, z_kAnd_t, z_kAnd_f, z_or, z_kOr_t, z_kOr_f, z_not, z_kNot, z_andE, z_kAndE_t, z_kAndE_f, z_orE, z_kOrE_t, z_kOrE_f, z_ifE, z_kIfE_t, z_kIfE_f, z_frz, z_frz_v, z_seq, z_seq_nx, z_seq_rt, z_seq_bk, z_seq_ct, z_drop, z_kDrop, z_ret, z_kRet, z_retN, z_set, z_kSet, z_if, z_kIf_t, z_kIf_f, z_par, z_kPar, z_asg, z_kAsg, z_kAsg2, z_next, z_break, z_cont, z_gSet, z_for_nil, z_for_cons, z_kFor, z_kFor_nx, z_kFor_ct, z_kFor_bk, z_kFor_rt, z_forI, z_kForI, List.getElem?_cons_zero, List.getElem?_cons_succ, List.set_cons_zero, List.set_cons_succ, at_od]
    rfl
  have := lc_ok (vs := [3]) (g := gSet 3) (t := tBool (eOp hNeT (eVar 3) (eVar 1))) (te := eVar 3) (p := fun d => match d with | .str y => q y | _ => false) (f := id) hs (by simp; omega) fun e he S1 => by
    obtain ⟨y, hy, rfl⟩ := List.mem_map.mp he
    refine ⟨[some (od w), some (.val d), none, some (.val (.str y))], rfl, ?_, fun _ => rfl⟩
    simp only [z_bind_ok, z_bindS_ok, z_C, z_var, z_kVar, z_op, z_kOp, z_un, z_nil, z_cons, z_kCons, z_kCons2, z_app, z_bool, z_kBool, z_and, z_kAnd_t, z_kAnd_f, z_or, z_kOr_t, z_kOr_f, z_not, z_kNot, z_andE, z_kAndE_t, z_kAndE_f, z_orE, z_kOrE_t, z_kOrE_f, z_ifE, z_kIfE_t, z_kIfE_f, z_frz, z_frz_v, z_seq, z_seq_nx, z_seq_rt, z_seq_bk, z_seq_ct, z_drop, z_kDrop, z_ret, z_kRet, z_retN, z_set, z_kSet, z_if, z_kIf_t, z_kIf_f, z_par, z_kPar, z_asg, z_kAsg, z_kAsg2, z_next, z_break, z_cont, z_gSet, z_for_nil, z_for_cons, z_kFor, z_kFor_nx, z_kFor_ct, z_kFor_bk, z_kFor_rt, z_forI, z_kForI, List.getElem?_cons_zero, List.getElem?_cons_succ, List.set_cons_zero, List.set_cons_succ, h y hy S1]
  rw [this]
  congr 3
  rw [List.map_id, ts, List.filter_map]
  rfl
theorem m_sub {q : Str → Bool} (h : Sub w d q) (hl : w.length ≤ 100) (hr : Row w) (h1 : w.filter q ≠ []) (h2 : (w.filter q).length ≠ w.length) : callG 2 g_Order___sub__ [] [od w, .val d] S = .ok (od (w.filter q)) S := by
  show defF 4 e_Order___sub__ [_, _] S = _
  have hr2 : Row (w.filter q) := ⟨hr.nd.filter _, fun y hy => hr.w5 y (List.mem_filter.mp hy).1⟩
  have e1 : (((w.filter q).length : Int) == (w.length : Int)) = false := by
    rw [beq_eq_false_iff_ne]
    omega
  have e2 : ∀ S, hTbL tb_eq_1 (hOwnCmp ct) hEq (tl (w.filter q)) (.val (.lst [])) S = .ok (.val (.bl false)) S := fun S => by
    have := hEq_ll (S := S) (v := []) hr2.tx (fun _ h => by cases h)
    rw [decide_eq_false h1] at this
    exact this
  have e3 : ∀ S, hLst [] S = .ok (.val (.lst [])) S := fun _ => rfl
  have := List.length_filter_le q w
  rw [z_def, est4]
  unfold e_Order___sub__
  rw [z_seq, z_set, sub_lc h hl]
  simp only [z_bind_ok, z_bindS_ok, z_C, z_var, z_kVar, z_op, z_kOp, z_un, z_nil, z_cons, z_kCons, z_kCons2, z_app, z_bool, z_kBool, z_and, z_kAnd_t, z_kAnd_f, z_or, z_kOr_t, z_kOr_f, z_not, z_kNot, z_andE, z_kAndE_t, z_kAndE_f, z_orE, z_kOrE_t, z_kOrE_f, z_ifE, z_kIfE_t, z_kIfE_f, z_frz, z_frz_v, z_seq, z_seq_nx, z_seq_rt, z_seq_bk, z_seq_ct, z_drop, z_kDrop, z_ret, z_kRet, z_retN, z_set, z_kSet, z_if, z_kIf_t, z_kIf_f, z_par, z_kPar, z_asg, z_kAsg, z_kAsg2, z_next, z_break, z_cont, z_gSet, z_for_nil, z_for_cons, z_kFor, z_kFor_nx, z_kFor_ct, z_kFor_bk, z_kFor_rt, z_forI, z_kForI, List.getElem?_cons_zero, List.getElem?_cons_succ, List.set_cons_zero, List.set_cons_succ, d_lenL, d_lenT, List.length_map, at_od, hEq_i, e1, e2, e3, star_l (S := S) (i := 2) (env := [some (od w), some (.val d), some (tl (w.filter q)), none]) rfl, init_ok hr2 h1 (by omega), z_kDef_v, List.take_length]
theorem m_subBad {q : Str → Bool} (h : Sub w d q) (hl : w.length ≤ 100) (hr : Row w) (h1 : w.filter q = [] ∨ (w.filter q).length = w.length) : callG 2 g_Order___sub__ [] [od w, .val d] S = .exc 5 ["part"] [.str "word"] S := by
  show defF 4 e_Order___sub__ [_, _] S = _
  have hr2 : Row (w.filter q) := ⟨hr.nd.filter _, fun y hy => hr.w5 y (List.mem_filter.mp hy).1⟩
  have e3 : ∀ S, hLst [] S = .ok (.val (.lst [])) S := fun _ => rfl
  have e2 : ∀ S, hTbL tb_eq_1 (hOwnCmp ct) hEq (tl (w.filter q)) (.val (.lst [])) S = .ok (.val (.bl (decide (w.filter q = [])))) S := fun S => hEq_ll (S := S) (v := []) hr2.tx (fun _ h => by cases h)
  have er : ∀ env S, sRaise 5 ["part"] (eCons (eC (.str "word")) eNil) env S = .exc 5 ["part"] [.str "word"] env S := fun _ _ => rfl
  rw [z_def, est4]
  unfold e_Order___sub__
  rw [z_seq, z_set, sub_lc h hl]
  by_cases hq : (w.filter q).length = w.length
  · have e1 : (((w.filter q).length : Int) == (w.length : Int)) = true := by
      rw [beq_iff_eq]
      omega
    simp only [z_bind_ok, z_bindS_ok, z_C, z_var, z_kVar, z_op, z_kOp, z_un, z_nil, z_cons, z_kCons, z_kCons2, z_app, z_bool, z_kBool, z_and, z_kAnd_t, z_kAnd_f, z_or, z_kOr_t, z_kOr_f, z_not, z_kNot, z_andE, z_kAndE_t, z_kAndE_f, z_orE, z_kOrE_t, z_kOrE_f, z_ifE, z_kIfE_t, z_kIfE_f, z_frz, z_frz_v, z_seq, z_seq_nx, z_seq_rt, z_seq_bk, z_seq_ct, z_drop, z_kDrop, z_ret, z_kRet, z_retN, z_set, z_kSet, z_if, z_kIf_t, z_kIf_f, z_par, z_kPar, z_asg, z_kAsg, z_kAsg2, z_next, z_break, z_cont, z_gSet, z_for_nil, z_for_cons, z_kFor, z_kFor_nx, z_kFor_ct, z_kFor_bk, z_kFor_rt, z_forI, z_kForI, List.getElem?_cons_zero, List.getElem?_cons_succ, List.set_cons_zero, List.set_cons_succ, d_lenL, d_lenT, List.length_map, at_od, hEq_i, e1, er]
    show kDef S (.exc _ _ _ _ _) = _
    rw [kd_exc, List.take_length]
  · have e1 : (((w.filter q).length : Int) == (w.length : Int)) = false := by
      rw [beq_eq_false_iff_ne]
      omega
    have h0 : w.filter q = [] := by
      rcases h1 with h | h
      · exact h
      · exact absurd h hq
    simp only [z_bind_ok, z_bindS_ok, z_C, z_var, z_kVar, z_op, z_kOp, z_un, z_nil, z_cons, z_kCons, z_kCons2, z_app, z_bool, z_kBool, z_and, z_kAnd_t, z_kAnd_f, z_or, z_kOr_t, z_kOr_f, z_not, z_kNot, z_andE, z_kAndE_t, z_kAndE_f, z_orE, z_kOrE_t, z_kOrE_f, z_ifE, z_kIfE_t, z_kIfE_f, z_frz, z_frz_v, z_seq, z_seq_nx, z_seq_rt, z_seq_bk, z_seq_ct, z_drop, z_kDrop, z_ret, z_kRet, z_retN, z_set, z_kSet, z_if, z_kIf_t, z_kIf_f, z_par, z_kPar, z_asg, z_kAsg, z_kAsg2, z_next, z_break, z_cont, z_gSet, z_for_nil, z_for_cons, z_kFor, z_kFor_nx, z_kFor_ct, z_kFor_bk, z_kFor_rt, z_forI, z_kForI, List.getElem?_cons_zero, List.getElem?_cons_succ, List.set_cons_zero, List.set_cons_succ, d_lenL, d_lenT, List.length_map, at_od, hEq_i, e1, e2, e3, decide_eq_true h0, er]
    show kDef S (.exc _ _ _ _ _) = _
    rw [kd_exc, List.take_length]
end
end Lw


namespace Lw
open PySem L2 R
section
variable {S : Store} {x y : Str} {d : D} {w v pre : List Str}
theorem len_sub : ∀ (l m : List Str), l.Nodup → (∀ x ∈ l, x ∈ m) → l.length ≤ m.length
  | [], _, _, _ => Nat.zero_le _
  | x :: l, m, h, hs => by
    obtain ⟨h1, h2⟩ := List.nodup_cons.mp h
    have hx := hs x (List.mem_cons_self ..)
    have := len_sub l (m.erase x) h2 fun y hy => (List.mem_erase_of_ne (fun e : y = x => h1 (e ▸ hy))).mpr (hs y (List.mem_cons_of_mem _ hy))
    rw [List.length_erase_of_mem hx] at this
    have hp := List.length_pos_of_mem hx
    simp only [List.length_cons]
    omega
theorem Row.le5 (h : Row w) : w.length ≤ 5 := len_sub w W5 h.nd h.w5
theorem Row.rev (h : Row w) : Row w.reverse := ⟨List.pairwise_reverse.mpr (h.nd.imp fun h e => h e.symm), fun x hx => h.w5 x (List.mem_reverse.mp hx)⟩
theorem Row.fil (h : Row w) (q : Str → Bool) : Row (w.filter q) := ⟨h.nd.filter _, fun x hx => h.w5 x (List.mem_filter.mp hx).1⟩
theorem w5_len : ∀ x ∈ W5, x.length ≤ 20 := by decide +kernel
theorem w5_sp : ∀ x ∈ W5, 32 ∉ TL.tl x := by decide +kernel
theorem Row.fit (h : Row w) : (w.map (·.length)).sum + w.length * (" " : Str).length ≤ 100000 := fits (fun x hx => w5_len x (h.w5 x hx)) (by have := h.le5; omega)
theorem Row.spl (h : Row w) (hne : w ≠ []) : Spl w := ⟨h.fit, hne, fun x hx => w5_sp x (h.w5 x hx)⟩
theorem frz_new {c : Con} : hFrz (.loc S.length) (S ++ [some c]) = .ok (.val (conD c)) (S ++ [none]) := by
  unfold hFrz
  dsimp only
  rw [List.getElem?_append_right (Nat.le_refl _), Nat.sub_self]
  dsimp only [List.getElem?_cons_zero]
  rw [List.set_append_right _ _ (Nat.le_refl _), Nat.sub_self]
  rfl
theorem all_new : callG 0 g__law_all [] [] S = .ok (.loc S.length) (S ++ [some (.lst (ts W5))]) := by
  have e : callG 0 g__law_all [] [] S = kDef S (.ok (.rt (.loc S.length)) (S ++ [some (.lst (ts W5))])) := by kernel_rfl
  rw [e]
  unfold kDef
  dsimp only
  rw [if_neg (Nat.lt_irrefl _), List.getElem?_append_right (Nat.le_refl _), Nat.sub_self]
  dsimp only [List.getElem?_cons_zero]
  rw [List.take_left]
theorem all_frz {env : R.Env} : eFrz (eApp (callG 0 g__law_all []) eNil) env S = .ok (tl W5) (S ++ [none]) := by
  simp -implicitDefEqProofs only [z_bind_ok, z_bindS_ok, z_C, z_var, z_kVar, z_op, z_kOp, z_un, z_nil, z_cons, z_kCons, z_kCons2, z_app, z_bool, z_kBool, z_and, z_kAnd_t, z_kAnd_f, z_or, z_kOr_t, z_kOr_f, z_not, z_kNot, z_andE, z_kAndE_t, z_kAndE_f, z_orE, z_kOrE_t, z_kOrE_f, z_ifE, z_kIfE_t, z_kIfE_f, z_frz, z_frz_v, z_seq, z_seq_nx, z_seq_rt, z_seq_bk, z_seq_ct, z_drop, z_kDrop, z_ret, z_kRet, z_retN, z_set, z_kSet, z_if, z_kIf_t, z_kIf_f, z_par, z_kPar, z_asg, z_kAsg, z_kAsg2, z_next, z_break, z_cont, z_gSet, z_for_nil, z_for_cons, z_kFor, z_kFor_nx, z_kFor_ct, z_kFor_bk, z_kFor_rt, z_forI, z_kForI, List.getElem?_cons_zero, List.getElem?_cons_succ, List.set_cons_zero, List.set_cons_succ, all_new, frz_new]
  rfl
theorem dic_frz {env : R.Env} : eFrz eDnewN env S = .ok (.val (.dic [] [])) (S ++ [none]) := by
  rw [z_frz]
  show (Out.ok (A.loc S.length) (S ++ [some (.dic [] [])])).bind hFrz = _
  rw [z_bind_ok, frz_new]
  rfl
theorem hNe_b {a b : Bool} : hNe (.val (.bl a)) (.val (.bl b)) S = .ok (.val (.bl (!(a == b)))) S := by
  cases a <;> cases b <;> rfl
theorem d_tru (hne : w ≠ []) (hl : w.length ≤ 100) : hTruT [] tb_len_1 (od w) S = .ok true S := by
  have e : hTruT [] tb_len_1 (od w) S = (callG 1 g_Order___len__ [] [od w] S).bind kTrL := by kernel_rfl
  have hp := List.length_pos_iff.mpr hne
  rw [e, m_len, z_bind_ok]
  unfold kTrL
  dsimp only
  rw [if_pos (by omega), show ((w.length : Int) != 0) = true from by
    rw [bne_iff_ne]
    omega]
theorem est5u {a b : A} : startE 5 [a, b] = [some a, some b, none, none, none] := rfl
def odds8 : List D := [.non, .int 0, .bl true, .str "", .str "blocks", .tup [.str "block"], .lst [.str "page"], .dic [] []]
def oddIn (d : D) : Prop := NonS d ∨ ∃ x, d = .str x ∧ PyData.strOk x = true ∧ x ∉ W5
theorem odds8_ok : ∀ d ∈ odds8, oddIn d := by
  intro d hd
  simp only [odds8, List.mem_cons, List.not_mem_nil, or_false] at hd
  rcases hd with rfl | rfl | rfl | rfl | rfl | rfl | rfl | rfl
  · exact .inl fun S => by kernel_rfl
  · exact .inl fun S => by kernel_rfl
  · exact .inl fun S => by kernel_rfl
  · exact .inr ⟨_, rfl, by decide +kernel, by decide +kernel⟩
  · exact .inr ⟨_, rfl, by decide +kernel, by decide +kernel⟩
  · exact .inl fun S => by kernel_rfl
  · exact .inl fun S => by kernel_rfl
  · exact .inl fun S => by kernel_rfl
abbrev envI (w : List Str) : R.Env := [some (od w), some (tl w), none, none, none]
theorem is_0a : hTuple [tl w] S = .ok (tt w) S := rfl
theorem is_0b (hr : Row w) : hTbL tb_eq_1 (hOwnNe ct) hNe (tt w) (tt w) S = .ok (.val (.bl false)) S := by
  have e : hTbL tb_eq_1 (hOwnNe ct) hNe (tt w) (tt w) S = hNe (tt w) (tt w) S := rfl
  rw [e, hNe_tt hr.tx hr.tx, decide_eq_true rfl]
  rfl
theorem is_0c : hNe (.val (.int w.length)) (.val (.int w.length)) S = .ok (.val (.bl false)) S := by
  rw [hNe_i, beq_self_eq_true]
  rfl
theorem is_0s : iSeqT tbi_1 (eVar 0) (envI w) S = .ok (ts w) S := by
  unfold iSeqT
  simp -implicitDefEqProofs only [z_bind_ok, z_bindS_ok, z_C, z_var, z_kVar, z_op, z_kOp, z_un, z_nil, z_cons, z_kCons, z_kCons2, z_app, z_bool, z_kBool, z_and, z_kAnd_t, z_kAnd_f, z_or, z_kOr_t, z_kOr_f, z_not, z_kNot, z_andE, z_kAndE_t, z_kAndE_f, z_orE, z_kOrE_t, z_kOrE_f, z_ifE, z_kIfE_t, z_kIfE_f, z_frz, z_frz_v, z_seq, z_seq_nx, z_seq_rt, z_seq_bk, z_seq_ct, z_drop, z_kDrop, z_ret, z_kRet, z_retN, z_set, z_kSet, z_if, z_kIf_t, z_kIf_f, z_par, z_kPar, z_asg, z_kAsg, z_kAsg2, z_next, z_break, z_cont, z_gSet, z_for_nil, z_for_cons, z_kFor, z_kFor_nx, z_kFor_ct, z_kFor_bk, z_kFor_rt, z_forI, z_kForI, List.getElem?_cons_zero, List.getElem?_cons_succ, List.set_cons_zero, List.set_cons_succ]
  kernel_rfl
theorem is_0d (hr : Row w) : eLc [2] (iSeqT tbi_1 (eVar 0)) (gSet 2) tYesE (eVar 2) (envI w) S = .ok (tl w) S := by
  have hl := hr.le5
  rw [lc_ok (p := fun _ => true) (f := id) is_0s (by simp; omega) fun d _ S1 => ⟨[some (od w), some (tl w), some (.val d), none, none], rfl, rfl, fun _ => rfl⟩]
  rw [List.filter_eq_self.mpr (fun _ _ => rfl), List.map_id]
theorem is_0e (hr : Row w) : hNe (tl w) (tl w) S = .ok (.val (.bl false)) S := by
  rw [hNe_ll hr.tx hr.tx, decide_eq_true rfl]
  rfl
theorem is_0f (hr : Row w) (hne : w ≠ []) : tTru (hTruT [] tb_len_1) (eVar 0) (envI w) S = .ok true S := by
  have hl := hr.le5
  unfold tTru
  simp -implicitDefEqProofs only [z_bind_ok, z_bindS_ok, z_C, z_var, z_kVar, z_op, z_kOp, z_un, z_nil, z_cons, z_kCons, z_kCons2, z_app, z_bool, z_kBool, z_and, z_kAnd_t, z_kAnd_f, z_or, z_kOr_t, z_kOr_f, z_not, z_kNot, z_andE, z_kAndE_t, z_kAndE_f, z_orE, z_kOrE_t, z_kOrE_f, z_ifE, z_kIfE_t, z_kIfE_f, z_frz, z_frz_v, z_seq, z_seq_nx, z_seq_rt, z_seq_bk, z_seq_ct, z_drop, z_kDrop, z_ret, z_kRet, z_retN, z_set, z_kSet, z_if, z_kIf_t, z_kIf_f, z_par, z_kPar, z_asg, z_kAsg, z_kAsg2, z_next, z_break, z_cont, z_gSet, z_for_nil, z_for_cons, z_kFor, z_kFor_nx, z_kFor_ct, z_kFor_bk, z_kFor_rt, z_forI, z_kForI, List.getElem?_cons_zero, List.getElem?_cons_succ, List.set_cons_zero, List.set_cons_succ, d_tru hne (by omega : w.length ≤ 100)]
theorem is_0 (hr : Row w) (hne : w ≠ []) : e__law_is_0 (envI w) S = .ok (.nx (envI w)) S := by
  have hl := hr.le5
  unfold e__law_is_0
  simp -implicitDefEqProofs only [z_bind_ok, z_bindS_ok, z_C, z_var, z_kVar, z_op, z_kOp, z_un, z_nil, z_cons, z_kCons, z_kCons2, z_app, z_bool, z_kBool, z_and, z_kAnd_t, z_kAnd_f, z_or, z_kOr_t, z_kOr_f, z_not, z_kNot, z_andE, z_kAndE_t, z_kAndE_f, z_orE, z_kOrE_t, z_kOrE_f, z_ifE, z_kIfE_t, z_kIfE_f, z_frz, z_frz_v, z_seq, z_seq_nx, z_seq_rt, z_seq_bk, z_seq_ct, z_drop, z_kDrop, z_ret, z_kRet, z_retN, z_set, z_kSet, z_if, z_kIf_t, z_kIf_f, z_par, z_kPar, z_asg, z_kAsg, z_kAsg2, z_next, z_break, z_cont, z_gSet, z_for_nil, z_for_cons, z_kFor, z_kFor_nx, z_kFor_ct, z_kFor_bk, z_kFor_rt, z_forI, z_kForI, List.getElem?_cons_zero, List.getElem?_cons_succ, List.set_cons_zero, List.set_cons_succ, at_od, is_0a, is_0b hr, d_len (by omega : w.length ≤ 100), d_lenL, List.length_map, is_0c, is_0d hr, is_0e hr, is_0f hr hne, Bool.not_true]
theorem is_1 (hr : Row w) (hne : w ≠ []) : e__law_is_1 (envI w) S = .ok (.nx (envI w)) S := by
  have hl := hr.le5
  have e4 : ∀ S, eLc [3] (iRange1 (eCons (eApp (hTbC tb_len_1 hOwnLen hLen) (eCons (eVar 1) (eNil))) (eNil))) (gSet 3) (tYesE) (eOp (hTbL tb_getitem_1 hOwnIx hIx) (eVar 0) (eVar 3)) (envI w) S = .ok (tl w) S := fun S => by
    have hs : iRange1 (eCons (eApp (hTbC tb_len_1 hOwnLen hLen) (eCons (eVar 1) (eNil))) (eNil)) (envI w) S = .ok (rangeD 0 w.length) S := by
      unfold iRange1
      simp -implicitDefEqProofs only [z_bind_ok, z_bindS_ok, z_C, z_var, z_kVar, z_op, z_kOp, z_un, z_nil, z_cons, z_kCons, z_kCons2, z_app, z_bool, z_kBool, z_and, z_kAnd_t, z_kAnd_f, z_or, z_kOr_t, z_kOr_f, z_not, z_kNot, z_andE, z_kAndE_t, z_kAndE_f, z_orE, z_kOrE_t, z_kOrE_f, z_ifE, z_kIfE_t, z_kIfE_f, z_frz, z_frz_v, z_seq, z_seq_nx, z_seq_rt, z_seq_bk, z_seq_ct, z_drop, z_kDrop, z_ret, z_kRet, z_retN, z_set, z_kSet, z_if, z_kIf_t, z_kIf_f, z_par, z_kPar, z_asg, z_kAsg, z_kAsg2, z_next, z_break, z_cont, z_gSet, z_for_nil, z_for_cons, z_kFor, z_kFor_nx, z_kFor_ct, z_kFor_bk, z_kFor_rt, z_forI, z_kForI, List.getElem?_cons_zero, List.getElem?_cons_succ, List.set_cons_zero, List.set_cons_succ, d_lenL, List.length_map]
      rw [if_pos (by omega)]
      rfl
    rw [lc_ok (p := fun _ => true) (f := fun d => match d with | .int k => .str (w.getD k.toNat "") | d => d) hs (by simp [rangeD]; omega) fun d hd S1 => by
      obtain ⟨k, hk, rfl⟩ := List.mem_map.mp hd
      rw [List.mem_range] at hk
      refine ⟨[some (od w), some (tl w), none, some (.val (.int (0 + (k : Nat)))), none], rfl, rfl, fun _ => ?_⟩
      rw [Int.zero_add]
      simp -implicitDefEqProofs only [z_bind_ok, z_bindS_ok, z_C, z_var, z_kVar, z_op, z_kOp, z_un, z_nil, z_cons, z_kCons, z_kCons2, z_app, z_bool, z_kBool, z_and, z_kAnd_t, z_kAnd_f, z_or, z_kOr_t, z_kOr_f, z_not, z_kNot, z_andE, z_kAndE_t, z_kAndE_f, z_orE, z_kOrE_t, z_kOrE_f, z_ifE, z_kIfE_t, z_kIfE_f, z_frz, z_frz_v, z_seq, z_seq_nx, z_seq_rt, z_seq_bk, z_seq_ct, z_drop, z_kDrop, z_ret, z_kRet, z_retN, z_set, z_kSet, z_if, z_kIf_t, z_kIf_f, z_par, z_kPar, z_asg, z_kAsg, z_kAsg2, z_next, z_break, z_cont, z_gSet, z_for_nil, z_for_cons, z_kFor, z_kFor_nx, z_kFor_ct, z_kFor_bk, z_kFor_rt, z_forI, z_kForI, List.getElem?_cons_zero, List.getElem?_cons_succ, List.set_cons_zero, List.set_cons_succ, d_get, m_get hk (by omega : w.length ≤ 100)]
      simp [hk]]
    have el : ((rangeD 0 w.length).filter fun _ => true).map (fun d => match d with | .int k => .str (w.getD k.toNat "") | d => d) = ts w := by
      rw [List.filter_eq_self.mpr (fun _ _ => rfl)]
      refine List.ext_getElem (by simp [rangeD]) fun i h1 h2 => ?_
      simp only [rangeD, List.getElem_map, List.getElem_range, ts]
      simp only [ts, List.length_map] at h2
      simp [h2]
    rw [el]
  have e5 : ∀ S, hNe (tl w) (tl w) S = .ok (.val (.bl false)) S := fun S => by
    rw [hNe_ll hr.tx hr.tx, decide_eq_true rfl]
    rfl
  have ej : ∀ S, eBm "str" kJoin (eC (.str " ")) (eCons (eVar 1) eNil) (envI w) S = .ok (.val (.str (Txt.join " " w))) S := fun S => by
    unfold eBm
    simp -implicitDefEqProofs only [z_bind_ok, z_bindS_ok, z_C, z_var, z_kVar, z_op, z_kOp, z_un, z_nil, z_cons, z_kCons, z_kCons2, z_app, z_bool, z_kBool, z_and, z_kAnd_t, z_kAnd_f, z_or, z_kOr_t, z_kOr_f, z_not, z_kNot, z_andE, z_kAndE_t, z_kAndE_f, z_orE, z_kOrE_t, z_kOrE_f, z_ifE, z_kIfE_t, z_kIfE_f, z_frz, z_frz_v, z_seq, z_seq_nx, z_seq_rt, z_seq_bk, z_seq_ct, z_drop, z_kDrop, z_ret, z_kRet, z_retN, z_set, z_kSet, z_if, z_kIf_t, z_kIf_f, z_par, z_kPar, z_asg, z_kAsg, z_kAsg2, z_next, z_break, z_cont, z_gSet, z_for_nil, z_for_cons, z_kFor, z_kFor_nx, z_kFor_ct, z_kFor_bk, z_kFor_rt, z_forI, z_kForI, List.getElem?_cons_zero, List.getElem?_cons_succ, List.set_cons_zero, List.set_cons_succ]
    unfold kBm
    rw [if_pos (show bty S (.val (.str " ")) = some "str" from rfl)]
    simp -implicitDefEqProofs only [z_bind_ok, z_bindS_ok, z_C, z_var, z_kVar, z_op, z_kOp, z_un, z_nil, z_cons, z_kCons, z_kCons2, z_app, z_bool, z_kBool, z_and, z_kAnd_t, z_kAnd_f, z_or, z_kOr_t, z_kOr_f, z_not, z_kNot, z_andE, z_kAndE_t, z_kAndE_f, z_orE, z_kOrE_t, z_kOrE_f, z_ifE, z_kIfE_t, z_kIfE_f, z_frz, z_frz_v, z_seq, z_seq_nx, z_seq_rt, z_seq_bk, z_seq_ct, z_drop, z_kDrop, z_ret, z_kRet, z_retN, z_set, z_kSet, z_if, z_kIf_t, z_kIf_f, z_par, z_kPar, z_asg, z_kAsg, z_kAsg2, z_next, z_break, z_cont, z_gSet, z_for_nil, z_for_cons, z_kFor, z_kFor_nx, z_kFor_ct, z_kFor_bk, z_kFor_rt, z_forI, z_kForI, List.getElem?_cons_zero, List.getElem?_cons_succ, List.set_cons_zero, List.set_cons_succ, kJoin_l hr.fit]
  have e7 : ∀ S, hNe (.val (.str (Txt.join " " w))) (.val (.str (Txt.join " " w))) S = .ok (.val (.bl false)) S := fun S => by
    rw [hNe_ss]
    simp
  unfold e__law_is_1
  simp -implicitDefEqProofs only [z_bind_ok, z_bindS_ok, z_C, z_var, z_kVar, z_op, z_kOp, z_un, z_nil, z_cons, z_kCons, z_kCons2, z_app, z_bool, z_kBool, z_and, z_kAnd_t, z_kAnd_f, z_or, z_kOr_t, z_kOr_f, z_not, z_kNot, z_andE, z_kAndE_t, z_kAndE_f, z_orE, z_kOrE_t, z_kOrE_f, z_ifE, z_kIfE_t, z_kIfE_f, z_frz, z_frz_v, z_seq, z_seq_nx, z_seq_rt, z_seq_bk, z_seq_ct, z_drop, z_kDrop, z_ret, z_kRet, z_retN, z_set, z_kSet, z_if, z_kIf_t, z_kIf_f, z_par, z_kPar, z_asg, z_kAsg, z_kAsg2, z_next, z_break, z_cont, z_gSet, z_for_nil, z_for_cons, z_kFor, z_kFor_nx, z_kFor_ct, z_kFor_bk, z_kFor_rt, z_forI, z_kForI, List.getElem?_cons_zero, List.getElem?_cons_succ, List.set_cons_zero, List.set_cons_succ, e4, e5, d_str hr.fit, ej, e7]
theorem is_2 (hr : Row w) : e__law_is_2 (envI w) S = .ok (.nx (envI w)) (S ++ [none]) := by
  have e4 : eLc [2] (iSeq (eFrz (eApp (callG 0 g__law_all []) eNil))) (gSet 2) (tBool (eOp hNe (eOp (hTbR tb_contains_1 hOwnIn hIn) (eVar 2) (eVar 0)) (eOp (hTbR tb_contains_1 hOwnIn hIn) (eVar 2) (eVar 1)))) (eVar 2) (envI w) S = .ok (.val (.lst [])) (S ++ [none]) := by
    have hs : iSeq (eFrz (eApp (callG 0 g__law_all []) eNil)) (envI w) S = .ok (ts W5) (S ++ [none]) := by
      unfold iSeq
      rw [all_frz]
      rfl
    rw [lc_ok (p := fun _ => false) (f := id) hs (by decide) fun d hd S1 => by
      obtain ⟨y, hy, rfl⟩ := List.mem_map.mp hd
      refine ⟨[some (od w), some (tl w), some (.val (.str y)), none, none], rfl, ?_, fun h => by cases h⟩
      have e : ∀ b : Bool, hNe (.val (.bl b)) (.val (.bl b)) S1 = .ok (.val (.bl false)) S1 := fun b => by
        rw [hNe_b]
        simp
      simp -implicitDefEqProofs only [z_bind_ok, z_bindS_ok, z_C, z_var, z_kVar, z_op, z_kOp, z_un, z_nil, z_cons, z_kCons, z_kCons2, z_app, z_bool, z_kBool, z_and, z_kAnd_t, z_kAnd_f, z_or, z_kOr_t, z_kOr_f, z_not, z_kNot, z_andE, z_kAndE_t, z_kAndE_f, z_orE, z_kOrE_t, z_kOrE_f, z_ifE, z_kIfE_t, z_kIfE_f, z_frz, z_frz_v, z_seq, z_seq_nx, z_seq_rt, z_seq_bk, z_seq_ct, z_drop, z_kDrop, z_ret, z_kRet, z_retN, z_set, z_kSet, z_if, z_kIf_t, z_kIf_f, z_par, z_kPar, z_asg, z_kAsg, z_kAsg2, z_next, z_break, z_cont, z_gSet, z_for_nil, z_for_cons, z_kFor, z_kFor_nx, z_kFor_ct, z_kFor_bk, z_kFor_rt, z_forI, z_kForI, List.getElem?_cons_zero, List.getElem?_cons_succ, List.set_cons_zero, List.set_cons_succ, d_inS (w5_tx y hy) hr.tx, d_inL, hIn_l (w5_tx y hy) hr.tx, e]]
    simp
  have e5 : ∀ S, hNe (.val (.lst [])) (.val (.lst [])) S = .ok (.val (.bl false)) S := fun S => by kernel_rfl
  have e3 : ∀ S, hLst [] S = .ok (.val (.lst [])) S := fun _ => rfl
  unfold e__law_is_2
  simp -implicitDefEqProofs only [z_bind_ok, z_bindS_ok, z_C, z_var, z_kVar, z_op, z_kOp, z_un, z_nil, z_cons, z_kCons, z_kCons2, z_app, z_bool, z_kBool, z_and, z_kAnd_t, z_kAnd_f, z_or, z_kOr_t, z_kOr_f, z_not, z_kNot, z_andE, z_kAndE_t, z_kAndE_f, z_orE, z_kOrE_t, z_kOrE_f, z_ifE, z_kIfE_t, z_kIfE_f, z_frz, z_frz_v, z_seq, z_seq_nx, z_seq_rt, z_seq_bk, z_seq_ct, z_drop, z_kDrop, z_ret, z_kRet, z_retN, z_set, z_kSet, z_if, z_kIf_t, z_kIf_f, z_par, z_kPar, z_asg, z_kAsg, z_kAsg2, z_next, z_break, z_cont, z_gSet, z_for_nil, z_for_cons, z_kFor, z_kFor_nx, z_kFor_ct, z_kFor_bk, z_kFor_rt, z_forI, z_kForI, List.getElem?_cons_zero, List.getElem?_cons_succ, List.set_cons_zero, List.set_cons_succ, e4, e5, e3]
theorem is_3 (hr : Row w) : e__law_is_3 (envI w) S = .ok (.rt (.val (.bl true))) (S ++ [none]) := by
  have hs : iSeq (eApp hLst (eCons (eC .non) (eCons (eC (.int 0)) (eCons (eC (.bl true)) (eCons (eC (.str "")) (eCons (eC (.str "blocks")) (eCons (eApp hTup (eCons (eC (.str "block")) (eNil))) (eCons (eApp hLst (eCons (eC (.str "page")) (eNil))) (eCons (eFrz eDnewN) (eNil)))))))))) (envI w) S = .ok odds8 (S ++ [none]) := by
    have e1 : ∀ S, hTup [.val (.str "block")] S = .ok (.val (.tup [.str "block"])) S := fun _ => rfl
    have e2 : ∀ S, hLst [.val (.str "page")] S = .ok (.val (.lst [.str "page"])) S := fun _ => rfl
    have e6 : ∀ env S, eDnewN env S = .ok (.loc S.length) (S ++ [some (.dic [] [])]) := fun _ _ => rfl
    have e7 : ∀ S, hLst [.val .non, .val (.int 0), .val (.bl true), .val (.str ""), .val (.str "blocks"), .val (.tup [.str "block"]), .val (.lst [.str "page"]), .val (.dic [] [])] S = .ok (.val (.lst odds8)) S := fun _ => rfl
    unfold iSeq
    simp -implicitDefEqProofs only [z_bind_ok, z_bindS_ok, z_C, z_var, z_kVar, z_op, z_kOp, z_un, z_nil, z_cons, z_kCons, z_kCons2, z_app, z_bool, z_kBool, z_and, z_kAnd_t, z_kAnd_f, z_or, z_kOr_t, z_kOr_f, z_not, z_kNot, z_andE, z_kAndE_t, z_kAndE_f, z_orE, z_kOrE_t, z_kOrE_f, z_ifE, z_kIfE_t, z_kIfE_f, z_frz, z_frz_v, z_seq, z_seq_nx, z_seq_rt, z_seq_bk, z_seq_ct, z_drop, z_kDrop, z_ret, z_kRet, z_retN, z_set, z_kSet, z_if, z_kIf_t, z_kIf_f, z_par, z_kPar, z_asg, z_kAsg, z_kAsg2, z_next, z_break, z_cont, z_gSet, z_for_nil, z_for_cons, z_kFor, z_kFor_nx, z_kFor_ct, z_kFor_bk, z_kFor_rt, z_forI, z_kForI, List.getElem?_cons_zero, List.getElem?_cons_succ, List.set_cons_zero, List.set_cons_succ, e6, frz_new, conD, e1, e2, e7]
    rfl
  have e4 : eLc [4] (iSeq (eApp hLst (eCons (eC .non) (eCons (eC (.int 0)) (eCons (eC (.bl true)) (eCons (eC (.str "")) (eCons (eC (.str "blocks")) (eCons (eApp hTup (eCons (eC (.str "block")) (eNil))) (eCons (eApp hLst (eCons (eC (.str "page")) (eNil))) (eCons (eFrz eDnewN) (eNil))))))))))) (gSet 4) (tBool (eOp (hTbR tb_contains_1 hOwnIn hIn) (eVar 4) (eVar 0))) (eVar 4) (envI w) S = .ok (.val (.lst [])) (S ++ [none]) := by
    rw [lc_ok (p := fun _ => false) (f := id) hs (by decide) fun d hd S1 => by
      refine ⟨[some (od w), some (tl w), none, none, some (.val d)], rfl, ?_, fun h => by cases h⟩
      rcases odds8_ok d hd with h | ⟨x, rfl, hx, h⟩
      · simp -implicitDefEqProofs only [z_bind_ok, z_bindS_ok, z_C, z_var, z_kVar, z_op, z_kOp, z_un, z_nil, z_cons, z_kCons, z_kCons2, z_app, z_bool, z_kBool, z_and, z_kAnd_t, z_kAnd_f, z_or, z_kOr_t, z_kOr_f, z_not, z_kNot, z_andE, z_kAndE_t, z_kAndE_f, z_orE, z_kOrE_t, z_kOrE_f, z_ifE, z_kIfE_t, z_kIfE_f, z_frz, z_frz_v, z_seq, z_seq_nx, z_seq_rt, z_seq_bk, z_seq_ct, z_drop, z_kDrop, z_ret, z_kRet, z_retN, z_set, z_kSet, z_if, z_kIf_t, z_kIf_f, z_par, z_kPar, z_asg, z_kAsg, z_kAsg2, z_next, z_break, z_cont, z_gSet, z_for_nil, z_for_cons, z_kFor, z_kFor_nx, z_kFor_ct, z_kFor_bk, z_kFor_rt, z_forI, z_kForI, List.getElem?_cons_zero, List.getElem?_cons_succ, List.set_cons_zero, List.set_cons_succ, d_inN h]
      · simp -implicitDefEqProofs only [z_bind_ok, z_bindS_ok, z_C, z_var, z_kVar, z_op, z_kOp, z_un, z_nil, z_cons, z_kCons, z_kCons2, z_app, z_bool, z_kBool, z_and, z_kAnd_t, z_kAnd_f, z_or, z_kOr_t, z_kOr_f, z_not, z_kNot, z_andE, z_kAndE_t, z_kAndE_f, z_orE, z_kOrE_t, z_kOrE_f, z_ifE, z_kIfE_t, z_kIfE_f, z_frz, z_frz_v, z_seq, z_seq_nx, z_seq_rt, z_seq_bk, z_seq_ct, z_drop, z_kDrop, z_ret, z_kRet, z_retN, z_set, z_kSet, z_if, z_kIf_t, z_kIf_f, z_par, z_kPar, z_asg, z_kAsg, z_kAsg2, z_next, z_break, z_cont, z_gSet, z_for_nil, z_for_cons, z_kFor, z_kFor_nx, z_kFor_ct, z_kFor_bk, z_kFor_rt, z_forI, z_kForI, List.getElem?_cons_zero, List.getElem?_cons_succ, List.set_cons_zero, List.set_cons_succ, d_inS hx hr.tx, decide_eq_false (fun hm => h (hr.w5 x hm))]]
    simp
  have e5 : ∀ S, hEq (.val (.lst [])) (.val (.lst [])) S = .ok (.val (.bl true)) S := fun S => by kernel_rfl
  have e3 : ∀ S, hLst [] S = .ok (.val (.lst [])) S := fun _ => rfl
  unfold e__law_is_3
  simp -implicitDefEqProofs only [z_bind_ok, z_bindS_ok, z_C, z_var, z_kVar, z_op, z_kOp, z_un, z_nil, z_cons, z_kCons, z_kCons2, z_app, z_bool, z_kBool, z_and, z_kAnd_t, z_kAnd_f, z_or, z_kOr_t, z_kOr_f, z_not, z_kNot, z_andE, z_kAndE_t, z_kAndE_f, z_orE, z_kOrE_t, z_kOrE_f, z_ifE, z_kIfE_t, z_kIfE_f, z_frz, z_frz_v, z_seq, z_seq_nx, z_seq_rt, z_seq_bk, z_seq_ct, z_drop, z_kDrop, z_ret, z_kRet, z_retN, z_set, z_kSet, z_if, z_kIf_t, z_kIf_f, z_par, z_kPar, z_asg, z_kAsg, z_kAsg2, z_next, z_break, z_cont, z_gSet, z_for_nil, z_for_cons, z_kFor, z_kFor_nx, z_kFor_ct, z_kFor_bk, z_kFor_rt, z_forI, z_kForI, List.getElem?_cons_zero, List.getElem?_cons_succ, List.set_cons_zero, List.set_cons_succ, e4, e5, e3]
theorem is_ok (hr : Row w) (hne : w ≠ []) : callG 2 g__law_is [] [od w, tl w] S = .ok (.val (.bl true)) S := by
  show defF 5 e__law_is [_, _] S = _
  rw [z_def, est5u]
  unfold e__law_is
  rw [z_seq, is_0 hr hne, z_seq_nx, z_seq, is_1 hr hne, z_seq_nx, z_seq, is_2 hr, z_seq_nx, is_3 hr, z_kDef_v]
  simp
end
end Lw


namespace Lw
open PySem L2 R
def dc : DrawC := ⟨90031, 1217, 2147483549, 88007, 3911, 2147483647, 521, 61007, 241, 2147483563⟩
theorem dc_ok : dc.ok = true := by decide
theorem g_draw : g__law_draw = defF 7 (drawE dc) := rfl
theorem g_pen : g__law_pen = defF 1 penE := rfl
theorem g_pick : g__law_pick = defF 2 (pickE (defF 7 (drawE dc))) := rfl
/-- a pen that has drawn at most n times -/
def Pn (n : Int) (p : Option Con) : Prop := ∃ cs t r, p = some (penC cs t r) ∧ 0 ≤ t ∧ t ≤ n ∧ 0 ≤ r
section
variable {S T : Store} {x y : Str} {d : D} {w v pre : List Str} {n : Int} {p : Option Con} {env : R.Env}
theorem draw_st {m : Int} (h : Pn n p) (hn : n ≤ 100000) (h0 : 0 < m) (h1 : m < 2 ^ 64) : ∃ p' k, Pn (n + 1) p' ∧ 0 ≤ k ∧ k < m ∧ callG 2 g__law_draw [] [.loc 0, .val (.int m)] (p :: T) = .ok (.val (.int k)) (p' :: T) := by
  obtain ⟨cs, t, r, rfl, ht, ht2, hr⟩ := h
  obtain ⟨t', r', k, a1, a2, a3, a4, e⟩ := draw_ok dc_ok (S := some (penC cs t r) :: T) (p := 0) rfl ht (by omega) hr h0 h1
  refine ⟨some (penC cs t' r'), k, ⟨cs, t', r', rfl, by omega, by omega, a2⟩, a3, a4, ?_⟩
  rw [z_call (as := [.loc 0, .val (.int m)]) (n := 2) rfl, g_draw, e]
  rfl
theorem pick_st {ds : List D} (h : Pn n p) (hn : n ≤ 100000) (h0 : ds ≠ []) (h1 : ds.length ≤ 1000) : ∃ p' d, Pn (n + 1) p' ∧ d ∈ ds ∧ callG 2 g__law_pick [] [.loc 0, .val (.lst ds)] (p :: T) = .ok (.val d) (p' :: T) := by
  obtain ⟨cs, t, r, rfl, ht, ht2, hr⟩ := h
  obtain ⟨t', r', d, a1, a2, a3, e⟩ := pick_ok dc_ok (S := some (penC cs t r) :: T) (p := 0) (ds := ds) rfl ht (by omega) hr h0 (by omega)
  refine ⟨some (penC cs t' r'), d, ⟨cs, t', r', rfl, by omega, by omega, a2⟩, a3, ?_⟩
  rw [z_call (as := [.loc 0, .val (.lst ds)]) (n := 2) rfl, g_pick, e]
  rfl
/-! what a refused call tells -/
theorem heard_exc {fE : Ev A} {S2 : Store} {c : Nat} {ns : List Str} {vs : List D} (h : fE env S = .exc c ns vs S2) (hp : S2.take S.length = S) (hrest : ∀ S S2 : Store, e__law_heard (fun _ => .exc c ns vs S2) (startE 4 [.fv 0]) S = .ok (.rt (.val d)) S2) : eLam 4 e__law_heard fE env S = .ok (.val d) S := by
  have e : ∀ th : Store → Out A, e__law_heard th (startE 4 [.fv 0]) S = e__law_heard (fun _ => th S) (startE 4 [.fv 0]) S := fun th => by kernel_rfl
  unfold eLam
  rw [e, h]
  show kDef S (e__law_heard (fun _ => .exc c ns vs S2) (startE 4 [.fv 0]) S) = _
  rw [hrest, z_kDef_v, hp]
abbrev Rw1 : D := .tup [.str "order", .str "'word'"]
theorem heard_word {fE : Ev A} (h : fE env S = .exc 5 ["part"] [.str "word"] S) : eLam 4 e__law_heard fE env S = .ok (.val Rw1) S := heard_exc h (List.take_length ..) fun S S2 => by kernel_rfl
/-! + and - -/
theorem noNI_v : noNI (.ok (.val d) S) = .ok (.val d) S := rfl
theorem noNI_x {c : Nat} {ns : List Str} {vs : List D} : noNI (.exc c ns vs S) = .exc c ns vs S := rfl
theorem d_add0 {h0 : A → A → Store → Out A} (hk : okB ct S (.val d) = true) : hTbL tb_add_1 (hOwnB ct) h0 (od w) (.val d) S = noNI (callG 2 g_Order___add__ [] [od w, .val d] S) := by
  rw [show hTbL tb_add_1 (hOwnB ct) h0 (od w) (.val d) S = hOwnB ct 11 (callG 2 g_Order___add__ []) (od w) (.val d) S from by kernel_rfl]
  unfold hOwnB
  rw [if_pos ⟨⟨rfl, hk⟩, by decide, rfl⟩]
theorem d_sub0 {h0 : A → A → Store → Out A} (hk : okB ct S (.val d) = true) : hTbL tb_sub_1 (hOwnB ct) h0 (od w) (.val d) S = noNI (callG 2 g_Order___sub__ [] [od w, .val d] S) := by
  rw [show hTbL tb_sub_1 (hOwnB ct) h0 (od w) (.val d) S = hOwnB ct 11 (callG 2 g_Order___sub__ []) (od w) (.val d) S from by kernel_rfl]
  unfold hOwnB
  rw [if_pos ⟨⟨rfl, hk⟩, by decide, rfl⟩]
theorem okB_s : okB ct S (.val (.str x)) = true := by kernel_rfl
theorem sub_s : Sub w (.str x) (fun y => !(y == x)) := fun y _ S => by
  show hNe (.val (.str y)) (.val (.str x)) S = _
  rw [hNe_ss]
def odd9 (w : List Str) : List D := [.non, .int 0, .str "", .str "blocks", .str "journal", .tup [.str "block"], .bl true, .obj 11 ["words"] [.tup (ts w)], .lst []]
structure Odd (w : List Str) (d : D) : Prop where
  b : ∀ pre, BadAt pre d
  k : ∀ S : Store, okB ct S (.val d) = true
  s : ∀ y ∈ W5, ∀ S : Store, hNeT (.val (.str y)) (.val d) S = .ok (.val (.bl true)) S
theorem odd_s (hx : PyData.strOk x = true) (h : x ∉ W5) : Odd w (.str x) := ⟨fun _ => .inr ⟨x, rfl, hx, .inl h⟩, fun _ => okB_s, fun y hy S => by
  rw [sub_s (w := W5) (x := x) y hy S]
  have : (y == x) = false := beq_eq_false_iff_ne.mpr fun e => h (e ▸ hy)
  show Out.ok (A.val (.bl (!(y == x)))) S = _
  rw [this]
  rfl⟩
theorem add_ll {xs ys : List D} (h : xs.length + ys.length ≤ 1000) : hAdd (.val (.lst xs)) (.val (.lst ys)) S = .ok (.val (.lst (xs ++ ys))) S := by
  unfold hAdd
  dsimp only
  rw [if_pos (by omega)]
theorem odd_c (h1 : NonS d) (h2 : ∀ S : Store, okB ct S (.val d) = true) (h3 : ∀ S : Store, (hNeT (.val (.str "block")) (.val d) S = .ok (.val (.bl true)) S ∧ hNeT (.val (.str "page")) (.val d) S = .ok (.val (.bl true)) S) ∧ hNeT (.val (.str "cell")) (.val d) S = .ok (.val (.bl true)) S ∧ hNeT (.val (.str "bucket")) (.val d) S = .ok (.val (.bl true)) S ∧ hNeT (.val (.str "parity")) (.val d) S = .ok (.val (.bl true)) S) : Odd w d := ⟨fun _ => .inl h1, h2, fun y hy S => by
  simp only [W5, List.mem_cons, List.not_mem_nil, or_false] at hy
  rcases hy with rfl | rfl | rfl | rfl | rfl
  · exact (h3 S).1.1
  · exact (h3 S).1.2
  · exact (h3 S).2.1
  · exact (h3 S).2.2.1
  · exact (h3 S).2.2.2⟩
theorem odd_o : Odd w (.obj 11 ["words"] [.tup (ts w)]) := ⟨fun _ => .inl fun S => by kernel_rfl, fun S => by kernel_rfl, fun y hy S => by
  have e : hNeT (.val (.str y)) (od w) S = (callG 2 g_Order___eq__ [] [od w, .val (.str y)] S).bind kNeg := by kernel_rfl
  rw [e, m_eqNon fun S => by kernel_rfl]
  rfl⟩
theorem odd9_ok : ∀ d ∈ odd9 w, Odd w d := by
  intro d hd
  simp only [odd9, List.mem_cons, List.not_mem_nil, or_false] at hd
  rcases hd with rfl | rfl | rfl | rfl | rfl | rfl | rfl | rfl | rfl
  · exact odd_c (fun S => by kernel_rfl) (fun S => by kernel_rfl) fun S => ⟨⟨by kernel_rfl, by kernel_rfl⟩, by kernel_rfl, by kernel_rfl, by kernel_rfl⟩
  · exact odd_c (fun S => by kernel_rfl) (fun S => by kernel_rfl) fun S => ⟨⟨by kernel_rfl, by kernel_rfl⟩, by kernel_rfl, by kernel_rfl, by kernel_rfl⟩
  · exact odd_s (by decide +kernel) (by decide +kernel)
  · exact odd_s (by decide +kernel) (by decide +kernel)
  · exact odd_s (by decide +kernel) (by decide +kernel)
  · exact odd_c (fun S => by kernel_rfl) (fun S => by kernel_rfl) fun S => ⟨⟨by kernel_rfl, by kernel_rfl⟩, by kernel_rfl, by kernel_rfl, by kernel_rfl⟩
  · exact odd_c (fun S => by kernel_rfl) (fun S => by kernel_rfl) fun S => ⟨⟨by kernel_rfl, by kernel_rfl⟩, by kernel_rfl, by kernel_rfl, by kernel_rfl⟩
  · exact odd_o
  · exact odd_c (fun S => by kernel_rfl) (fun S => by kernel_rfl) fun S => ⟨⟨by kernel_rfl, by kernel_rfl⟩, by kernel_rfl, by kernel_rfl, by kernel_rfl⟩
/-! signs -/
def lf (w : List Str) : List Str := W5.filter fun x => !decide (x ∈ w)
theorem lf_row : Row (lf w) := (show Row W5 from ⟨by decide +kernel, fun _ h => h⟩).fil _
theorem lf_not (h : x ∈ lf w) : x ∉ w := by
  have := (List.mem_filter.mp h).2
  simpa using this
theorem add_row (hr : Row w) (k : Nat) : Row (w ++ (lf w).take k) := ⟨List.nodup_append.mpr ⟨hr.nd, (List.take_sublist k _).nodup lf_row.nd, fun a ha b hb e => lf_not (List.mem_of_mem_take hb) (e ▸ ha)⟩, fun y hy => by
  rcases List.mem_append.mp hy with h | h
  · exact hr.w5 y h
  · exact lf_row.w5 y (List.mem_of_mem_take h)⟩
abbrev eS (w : List Str) (a4 a5 a6 a7 a8 a9 : Option A) : R.Env := [some (.loc 0), some (tl w), some (od w), some (tl (lf w)), a4, a5, a6, a7, a8, a9]
theorem s_0 (hr : Row w) (hne : w ≠ []) : e__law_signs_right_0 [some (.loc 0), some (tl w), none, none, none, none, none, none, none, none] S = .ok (.nx (eS w none none none none none none)) (S ++ [none]) := by
  have e4 : eLc [5] (iSeq (eFrz (eApp (callG 0 g__law_all []) eNil))) (gSet 5) (tBool (eOp hNotIn (eVar 5) (eVar 1))) (eVar 5) [some (.loc 0), some (tl w), none, none, none, none, none, none, none, none] S = .ok (tl (lf w)) (S ++ [none]) := by
    have hs : iSeq (eFrz (eApp (callG 0 g__law_all []) eNil)) [some (.loc 0), some (tl w), none, none, none, none, none, none, none, none] S = .ok (ts W5) (S ++ [none]) := by
      unfold iSeq
      rw [all_frz]
      rfl
    rw [lc_ok (p := fun d => match d with | .str y => !decide (y ∈ w) | _ => false) (f := id) hs (by decide) fun d hd S1 => by
      obtain ⟨y, hy, rfl⟩ := List.mem_map.mp hd
      refine ⟨[some (.loc 0), some (tl w), none, none, none, some (.val (.str y)), none, none, none, none], rfl, ?_, fun _ => rfl⟩
      simp -implicitDefEqProofs only [z_bind_ok, z_bindS_ok, z_C, z_var, z_kVar, z_op, z_kOp, z_un, z_nil, z_cons, z_kCons, z_kCons2, z_app, z_bool, z_kBool, z_and, z_kAnd_t, z_kAnd_f, z_or, z_kOr_t, z_kOr_f, z_not, z_kNot, z_andE, z_kAndE_t, z_kAndE_f, z_orE, z_kOrE_t, z_kOrE_f, z_ifE, z_kIfE_t, z_kIfE_f, z_frz, z_frz_v, z_seq, z_seq_nx, z_seq_rt, z_seq_bk, z_seq_ct, z_drop, z_kDrop, z_ret, z_kRet, z_retN, z_set, z_kSet, z_if, z_kIf_t, z_kIf_f, z_par, z_kPar, z_asg, z_kAsg, z_kAsg2, z_next, z_break, z_cont, z_gSet, z_for_nil, z_for_cons, z_kFor, z_kFor_nx, z_kFor_ct, z_kFor_bk, z_kFor_rt, z_forI, z_kForI, List.getElem?_cons_zero, List.getElem?_cons_succ, List.set_cons_zero, List.set_cons_succ, hNotIn_l (w5_tx y hy) hr.tx]]
    rw [List.map_id, ts, List.filter_map]
    rfl
  have e5 : hTup [od w, tl (lf w)] (S ++ [none]) = .ok (.val (.tup [.obj 11 ["words"] [.tup (ts w)], .lst (ts (lf w))])) (S ++ [none]) := rfl
  unfold e__law_signs_right_0
  simp -implicitDefEqProofs only [z_bind_ok, z_bindS_ok, z_C, z_var, z_kVar, z_op, z_kOp, z_un, z_nil, z_cons, z_kCons, z_kCons2, z_app, z_bool, z_kBool, z_and, z_kAnd_t, z_kAnd_f, z_or, z_kOr_t, z_kOr_f, z_not, z_kNot, z_andE, z_kAndE_t, z_kAndE_f, z_orE, z_kOrE_t, z_kOrE_f, z_ifE, z_kIfE_t, z_kIfE_f, z_frz, z_frz_v, z_seq, z_seq_nx, z_seq_rt, z_seq_bk, z_seq_ct, z_drop, z_kDrop, z_ret, z_kRet, z_retN, z_set, z_kSet, z_if, z_kIf_t, z_kIf_f, z_par, z_kPar, z_asg, z_kAsg, z_kAsg2, z_next, z_break, z_cont, z_gSet, z_for_nil, z_for_cons, z_kFor, z_kFor_nx, z_kFor_ct, z_kFor_bk, z_kFor_rt, z_forI, z_kForI, List.getElem?_cons_zero, List.getElem?_cons_succ, List.set_cons_zero, List.set_cons_succ, made_ok hr hne hr.le5, e4, e5]
  rfl
theorem s_1 (hr : Row w) (hne : w ≠ []) : e__law_signs_right_1 (eS w none none none none none none) S = .ok (.nx (eS w none none none none none none)) S := by
  have hl := hr.le5
  have e1 : ∀ S, hRev (tl w) S = .ok (tl w.reverse) S := fun S => by
    show Out.ok (A.val (.lst (ts w).reverse)) S = _
    simp [ts]
  have hnr : w.reverse ≠ [] := by simpa using hne
  have i1 := fun S => d_inv (S := S) hr.rev hne (by omega)
  have i2 : ∀ S, hTbU tb_invert_1 hOwnUn (fun _ _ => .bad) (od w.reverse) S = .ok (od w) S := fun S => by
    have := d_inv (S := S) (w := w.reverse) (by rw [List.reverse_reverse]; exact hr) hnr (by simpa using (by omega : w.length ≤ 100))
    rw [List.reverse_reverse] at this
    exact this
  have n1 : ∀ S, hTbL tb_eq_1 (hOwnNe ct) hNe (od w) (od w) S = .ok (.val (.bl false)) S := fun S => by
    rw [d_ne hr.tx hr.tx, decide_eq_true rfl]
    rfl
  unfold e__law_signs_right_1
  simp -implicitDefEqProofs only [z_bind_ok, z_bindS_ok, z_C, z_var, z_kVar, z_op, z_kOp, z_un, z_nil, z_cons, z_kCons, z_kCons2, z_app, z_bool, z_kBool, z_and, z_kAnd_t, z_kAnd_f, z_or, z_kOr_t, z_kOr_f, z_not, z_kNot, z_andE, z_kAndE_t, z_kAndE_f, z_orE, z_kOrE_t, z_kOrE_f, z_ifE, z_kIfE_t, z_kIfE_f, z_frz, z_frz_v, z_seq, z_seq_nx, z_seq_rt, z_seq_bk, z_seq_ct, z_drop, z_kDrop, z_ret, z_kRet, z_retN, z_set, z_kSet, z_if, z_kIf_t, z_kIf_f, z_par, z_kPar, z_asg, z_kAsg, z_kAsg2, z_next, z_break, z_cont, z_gSet, z_for_nil, z_for_cons, z_kFor, z_kFor_nx, z_kFor_ct, z_kFor_bk, z_kFor_rt, z_forI, z_kForI, List.getElem?_cons_zero, List.getElem?_cons_succ, List.set_cons_zero, List.set_cons_succ, i1, i2, e1, is_ok hr.rev hnr, is_ok hr hne, n1, Bool.not_true]
theorem idx_nd : ∀ (l : List Str) (j : Nat) (h : j < l.length), l.Nodup → idxS l[j] l = some j
  | x :: l, 0, _, _ => by simp [idxS]
  | x :: l, j + 1, h, hn => by
    obtain ⟨h1, h2⟩ := List.nodup_cons.mp hn
    have hj : j < l.length := by simpa using h
    have hx : x ≠ l[j] := fun e => h1 (e ▸ List.getElem_mem hj)
    simp only [List.getElem_cons_succ, idxS, if_neg hx, idx_nd l j hj h2]
    rfl
theorem s_3 (hr : Row w) (hne : w ≠ []) : ∃ a4 a5, e__law_signs_right_3 (eS w (some (od w)) none none none none none) S = .ok (.nx (eS w a4 a5 none none none none)) S := by
  have hs : iSeqT tbi_1 (eVar 3) (eS w (some (od w)) none none none none none) S = .ok (ts (lf w)) S := by
    unfold iSeqT
    simp -implicitDefEqProofs only [z_bind_ok, z_bindS_ok, z_C, z_var, z_kVar, z_op, z_kOp, z_un, z_nil, z_cons, z_kCons, z_kCons2, z_app, z_bool, z_kBool, z_and, z_kAnd_t, z_kAnd_f, z_or, z_kOr_t, z_kOr_f, z_not, z_kNot, z_andE, z_kAndE_t, z_kAndE_f, z_orE, z_kOrE_t, z_kOrE_f, z_ifE, z_kIfE_t, z_kIfE_f, z_frz, z_frz_v, z_seq, z_seq_nx, z_seq_rt, z_seq_bk, z_seq_ct, z_drop, z_kDrop, z_ret, z_kRet, z_retN, z_set, z_kSet, z_if, z_kIf_t, z_kIf_f, z_par, z_kPar, z_asg, z_kAsg, z_kAsg2, z_next, z_break, z_cont, z_gSet, z_for_nil, z_for_cons, z_kFor, z_kFor_nx, z_kFor_ct, z_kFor_bk, z_kFor_rt, z_forI, z_kForI, List.getElem?_cons_zero, List.getElem?_cons_succ, List.set_cons_zero, List.set_cons_succ]
    rfl
  unfold e__law_signs_right_3
  rw [z_for, hs, z_bindS_ok]
  have key := for_inv (t := gSet 5) (s := (sSeq (sAug 4 (hTbL tb_add_1 (hOwnB ct) (hInt yes2 fun i j => .int (i + j))) (eVar 5))
    (sIf (tNotE (tBool (eApp (callG 2 g__law_is []) (eCons (eVar 4) (eCons (eOp hAdd (eApp hList (eCons (eVar 1) (eNil))) (eSlA (eVar 3) (oNone) (oSome (eOp (hTbL tb_add_1 (hOwnB ct) hAdd) (eBm "list" kIndex (eVar 3) (eCons (eVar 5) (eNil))) (eC (.int 1)))))) (eNil)))))) (sRet (eC (.bl false)))
    (sNext)))) (I := fun k env S' => S' = S ∧ ∃ a5, env = eS w (some (od (w ++ (lf w).take k))) a5 none none none none) (ds := ts (lf w)) (k := 0) (env := eS w (some (od w)) none none none none none) (S := S) ?_ ⟨rfl, none, by simp⟩
  · obtain ⟨env', S', ⟨rfl, a5, rfl⟩, e⟩ := key
    exact ⟨_, a5, e⟩
  · intro j d env S' hd hI
    obtain ⟨rfl, a5, rfl⟩ := hI
    rw [Nat.zero_add]
    obtain ⟨hj, hd⟩ := List.getElem?_eq_some_iff.mp hd
    have hj' : j < (lf w).length := by simpa using hj
    have hd : d = .str (lf w)[j] := by
      rw [← hd]
      simp
    subst hd
    have hm : (lf w)[j] ∈ lf w := List.getElem_mem hj'
    have ht : (lf w).take (j + 1) = (lf w).take j ++ [(lf w)[j]] := by
      rw [List.take_succ, List.getElem?_eq_getElem hj']
      rfl
    have hr1 := add_row hr j
    have hr2 := add_row hr (j + 1)
    have hn : (lf w)[j] ∉ w ++ (lf w).take j := by
      have := hr2.nd
      rw [ht, ← List.append_assoc] at this
      exact fun h => (List.nodup_append.mp this).2.2 _ h _ (List.mem_singleton.mpr rfl) rfl
    have ea : ∀ S, hTbL tb_add_1 (hOwnB ct) (hInt yes2 fun i j => .int (i + j)) (od (w ++ (lf w).take j)) (.val (.str (lf w)[j])) S = .ok (od (w ++ (lf w).take (j + 1))) S := fun S => by
      rw [d_add0 okB_s, m_add (lf_row.w5 _ hm) hr1 hn (by have := hr1.le5; omega), noNI_v, ht, List.append_assoc]
    have eg : sAug 4 (hTbL tb_add_1 (hOwnB ct) (hInt yes2 fun i j => .int (i + j))) (eVar 5) (eS w (some (od (w ++ (lf w).take j))) (some (.val (.str (lf w)[j]))) none none none none) S' = .ok (.nx (eS w (some (od (w ++ (lf w).take (j + 1)))) (some (.val (.str (lf w)[j]))) none none none none)) S' := by
      show (kAug 4 _ _ _ _ _) = _
      unfold kAug
      rw [ea]
      rfl
    have ei : ∀ env : R.Env, env[3]? = some (some (tl (lf w))) → env[5]? = some (some (.val (.str (lf w)[j]))) → eBm "list" kIndex (eVar 3) (eCons (eVar 5) eNil) env S' = .ok (.val (.int (j : Nat))) S' := fun env h3 h5 => by
      unfold eBm
      simp -implicitDefEqProofs only [z_bind_ok, z_bindS_ok, z_C, z_var, z_kVar, z_op, z_kOp, z_un, z_nil, z_cons, z_kCons, z_kCons2, z_app, z_bool, z_kBool, z_and, z_kAnd_t, z_kAnd_f, z_or, z_kOr_t, z_kOr_f, z_not, z_kNot, z_andE, z_kAndE_t, z_kAndE_f, z_orE, z_kOrE_t, z_kOrE_f, z_ifE, z_kIfE_t, z_kIfE_f, z_frz, z_frz_v, z_seq, z_seq_nx, z_seq_rt, z_seq_bk, z_seq_ct, z_drop, z_kDrop, z_ret, z_kRet, z_retN, z_set, z_kSet, z_if, z_kIf_t, z_kIf_f, z_par, z_kPar, z_asg, z_kAsg, z_kAsg2, z_next, z_break, z_cont, z_gSet, z_for_nil, z_for_cons, z_kFor, z_kFor_nx, z_kFor_ct, z_kFor_bk, z_kFor_rt, z_forI, z_kForI, List.getElem?_cons_zero, List.getElem?_cons_succ, List.set_cons_zero, List.set_cons_succ, h3]
      unfold kBm
      rw [if_pos (show bty S' (tl (lf w)) = some "list" from rfl)]
      simp -implicitDefEqProofs only [z_bind_ok, z_bindS_ok, z_C, z_var, z_kVar, z_op, z_kOp, z_un, z_nil, z_cons, z_kCons, z_kCons2, z_app, z_bool, z_kBool, z_and, z_kAnd_t, z_kAnd_f, z_or, z_kOr_t, z_kOr_f, z_not, z_kNot, z_andE, z_kAndE_t, z_kAndE_f, z_orE, z_kOrE_t, z_kOrE_f, z_ifE, z_kIfE_t, z_kIfE_f, z_frz, z_frz_v, z_seq, z_seq_nx, z_seq_rt, z_seq_bk, z_seq_ct, z_drop, z_kDrop, z_ret, z_kRet, z_retN, z_set, z_kSet, z_if, z_kIf_t, z_kIf_f, z_par, z_kPar, z_asg, z_kAsg, z_kAsg2, z_next, z_break, z_cont, z_gSet, z_for_nil, z_for_cons, z_kFor, z_kFor_nx, z_kFor_ct, z_kFor_bk, z_kFor_rt, z_forI, z_kForI, List.getElem?_cons_zero, List.getElem?_cons_succ, List.set_cons_zero, List.set_cons_succ, h5]
      unfold kIndex lst?
      simp only [strs_ts, idx_nd _ j hj' lf_row.nd]
    have ec : ∀ env : R.Env, env[3]? = some (some (tl (lf w))) → env[5]? = some (some (.val (.str (lf w)[j]))) → eSlA (eVar 3) (oNone) (oSome (eOp (hTbL tb_add_1 (hOwnB ct) hAdd) (eBm "list" kIndex (eVar 3) (eCons (eVar 5) (eNil))) (eC (.int 1)))) env S' = .ok (tl ((lf w).take (j + 1))) S' := fun env h3 h5 => by
      have e1 : oSome (eOp (hTbL tb_add_1 (hOwnB ct) hAdd) (eBm "list" kIndex (eVar 3) (eCons (eVar 5) (eNil))) (eC (.int 1))) env S' = .ok (some ((j + 1 : Nat) : Int)) S' := by
        unfold oSome
        rw [z_op, ei env h3 h5, z_bind_ok, z_kOp, z_C, z_bind_ok]
        rfl
      unfold eSlA
      rw [z_var, h3, z_kVar, z_bind_ok]
      show (oSome _ env S').bind _ = _
      rw [e1, z_bind_ok]
      show Out.ok (A.val (.lst (cutD (ts (lf w)) none (some ((j + 1 : Nat) : Int))))) S' = _
      rw [cut_take _ _ (by simp; omega)]
      simp [ts, List.map_take]
    have eh : ∀ S, hList [tl w] S = .ok (tl w) S := fun _ => rfl
    have ep : ∀ S, hAdd (tl w) (tl ((lf w).take (j + 1))) S = .ok (tl (w ++ (lf w).take (j + 1))) S := fun S => by
      have h1 := hr.le5
      have h2 := (lf_row (w := w)).le5
      rw [add_ll (by simp; omega)]
      simp [ts]
    refine ⟨eS w (some (od (w ++ (lf w).take j))) (some (.val (.str (lf w)[j]))) none none none none, S', eS w (some (od (w ++ (lf w).take (j + 1)))) (some (.val (.str (lf w)[j]))) none none none none, S', rfl, ?_, rfl, _, rfl⟩
    rw [z_seq, eg]
    simp -implicitDefEqProofs only [z_bind_ok, z_bindS_ok, z_C, z_var, z_kVar, z_op, z_kOp, z_un, z_nil, z_cons, z_kCons, z_kCons2, z_app, z_bool, z_kBool, z_and, z_kAnd_t, z_kAnd_f, z_or, z_kOr_t, z_kOr_f, z_not, z_kNot, z_andE, z_kAndE_t, z_kAndE_f, z_orE, z_kOrE_t, z_kOrE_f, z_ifE, z_kIfE_t, z_kIfE_f, z_frz, z_frz_v, z_seq, z_seq_nx, z_seq_rt, z_seq_bk, z_seq_ct, z_drop, z_kDrop, z_ret, z_kRet, z_retN, z_set, z_kSet, z_if, z_kIf_t, z_kIf_f, z_par, z_kPar, z_asg, z_kAsg, z_kAsg2, z_next, z_break, z_cont, z_gSet, z_for_nil, z_for_cons, z_kFor, z_kFor_nx, z_kFor_ct, z_kFor_bk, z_kFor_rt, z_forI, z_kForI, List.getElem?_cons_zero, List.getElem?_cons_succ, List.set_cons_zero, List.set_cons_succ, eh, ec (eS w (some (od (w ++ (lf w).take (j + 1)))) (some (.val (.str (lf w)[j]))) none none none none) rfl rfl, ep, is_ok hr2 (by simp [hne]), Bool.not_true]
end
end Lw


namespace Lw
open PySem L2 R
section
variable {S T : Store} {x y : Str} {d : D} {w v pre : List Str} {n : Int} {p : Option Con} {env : R.Env} {a4 a5 a7 a8 a9 : Option A}
abbrev wo (w : List Str) (x : Str) : List Str := w.filter fun y => !(y == x)
theorem s_5 (hr : Row w) : e__law_signs_right_5 (eS w a4 a5 (some (.val (.str x))) none none none) S = .ok (.nx (eS w a4 a5 (some (.val (.str x))) (some (tl (wo w x))) none none)) S := by
  have hl := hr.le5
  have hs : iSeqT tbi_1 (eVar 1) (eS w a4 a5 (some (.val (.str x))) none none none) S = .ok (ts w) S := by
    unfold iSeqT
    simp -implicitDefEqProofs only [z_bind_ok, z_bindS_ok, z_C, z_var, z_kVar, z_op, z_kOp, z_un, z_nil, z_cons, z_kCons, z_kCons2, z_app, z_bool, z_kBool, z_and, z_kAnd_t, z_kAnd_f, z_or, z_kOr_t, z_kOr_f, z_not, z_kNot, z_andE, z_kAndE_t, z_kAndE_f, z_orE, z_kOrE_t, z_kOrE_f, z_ifE, z_kIfE_t, z_kIfE_f, z_frz, z_frz_v, z_seq, z_seq_nx, z_seq_rt, z_seq_bk, z_seq_ct, z_drop, z_kDrop, z_ret, z_kRet, z_retN, z_set, z_kSet, z_if, z_kIf_t, z_kIf_f, z_par, z_kPar, z_asg, z_kAsg, z_kAsg2, z_next, z_break, z_cont, z_gSet, z_for_nil, z_for_cons, z_kFor, z_kFor_nx, z_kFor_ct, z_kFor_bk, z_kFor_rt, z_forI, z_kForI, List.getElem?_cons_zero, List.getElem?_cons_succ, List.set_cons_zero, List.set_cons_succ]
    rfl
  have e : eLc [5] (iSeqT tbi_1 (eVar 1)) (gSet 5) (tBool (eOp (hTbL tb_eq_1 (hOwnNe ct) hNe) (eVar 5) (eVar 6))) (eVar 5) (eS w a4 a5 (some (.val (.str x))) none none none) S = .ok (tl (wo w x)) S := by
    rw [lc_ok (p := fun d => match d with | .str y => !(y == x) | _ => false) (f := id) hs (by simp; omega) fun d hd S1 => by
      obtain ⟨y, hy, rfl⟩ := List.mem_map.mp hd
      refine ⟨eS w a4 (some (.val (.str y))) (some (.val (.str x))) none none none, rfl, ?_, fun _ => rfl⟩
      have e1 : hTbL tb_eq_1 (hOwnNe ct) hNe (.val (.str y)) (.val (.str x)) S1 = .ok (.val (.bl (!(y == x)))) S1 := rfl
      simp -implicitDefEqProofs only [z_bind_ok, z_bindS_ok, z_C, z_var, z_kVar, z_op, z_kOp, z_un, z_nil, z_cons, z_kCons, z_kCons2, z_app, z_bool, z_kBool, z_and, z_kAnd_t, z_kAnd_f, z_or, z_kOr_t, z_kOr_f, z_not, z_kNot, z_andE, z_kAndE_t, z_kAndE_f, z_orE, z_kOrE_t, z_kOrE_f, z_ifE, z_kIfE_t, z_kIfE_f, z_frz, z_frz_v, z_seq, z_seq_nx, z_seq_rt, z_seq_bk, z_seq_ct, z_drop, z_kDrop, z_ret, z_kRet, z_retN, z_set, z_kSet, z_if, z_kIf_t, z_kIf_f, z_par, z_kPar, z_asg, z_kAsg, z_kAsg2, z_next, z_break, z_cont, z_gSet, z_for_nil, z_for_cons, z_kFor, z_kFor_nx, z_kFor_ct, z_kFor_bk, z_kFor_rt, z_forI, z_kForI, List.getElem?_cons_zero, List.getElem?_cons_succ, List.set_cons_zero, List.set_cons_succ, e1]]
    rw [List.map_id, ts, List.filter_map]
    rfl
  unfold e__law_signs_right_5
  simp -implicitDefEqProofs only [z_bind_ok, z_bindS_ok, z_C, z_var, z_kVar, z_op, z_kOp, z_un, z_nil, z_cons, z_kCons, z_kCons2, z_app, z_bool, z_kBool, z_and, z_kAnd_t, z_kAnd_f, z_or, z_kOr_t, z_kOr_f, z_not, z_kNot, z_andE, z_kAndE_t, z_kAndE_f, z_orE, z_kOrE_t, z_kOrE_f, z_ifE, z_kIfE_t, z_kIfE_f, z_frz, z_frz_v, z_seq, z_seq_nx, z_seq_rt, z_seq_bk, z_seq_ct, z_drop, z_kDrop, z_ret, z_kRet, z_retN, z_set, z_kSet, z_if, z_kIf_t, z_kIf_f, z_par, z_kPar, z_asg, z_kAsg, z_kAsg2, z_next, z_break, z_cont, z_gSet, z_for_nil, z_for_cons, z_kFor, z_kFor_nx, z_kFor_ct, z_kFor_bk, z_kFor_rt, z_forI, z_kForI, List.getElem?_cons_zero, List.getElem?_cons_succ, List.set_cons_zero, List.set_cons_succ, e]
theorem wo_lt (h : x ∈ w) : (wo w x).length < w.length := by
  rcases Nat.lt_or_ge (wo w x).length w.length with h1 | h1
  · exact h1
  · have h2 : (wo w x).length ≤ w.length := List.length_filter_le (fun y => !(y == x)) w
    have h3 := List.length_filter_eq_length_iff.mp (Nat.le_antisymm h2 h1) x h
    simp at h3
theorem ne_nil (hv : TxOk v) : hTbL tb_eq_1 (hOwnNe ct) hNe (tl v) (.val (.lst [])) S = .ok (.val (.bl (!decide (v = [])))) S := by
  have := hNe_ll (S := S) (v := []) hv (fun _ h => by cases h)
  exact this
theorem eq_nil (hv : TxOk v) : hTbL tb_eq_1 (hOwnCmp ct) hEq (tl v) (.val (.lst [])) S = .ok (.val (.bl (decide (v = [])))) S := by
  have := hEq_ll (S := S) (v := []) hv (fun _ h => by cases h)
  exact this
theorem lst_nil : hLst [] S = .ok (.val (.lst [])) S := rfl
theorem s_6 (hr : Row w) (hx : x ∈ w) : e__law_signs_right_6 (eS w a4 a5 (some (.val (.str x))) (some (tl (wo w x))) none none) S = .ok (.nx (eS w a4 a5 (some (.val (.str x))) (some (tl (wo w x))) none none)) S := by
  have hl := hr.le5
  have hlt := wo_lt hx
  have hv : Row (wo w x) := hr.fil _
  unfold e__law_signs_right_6
  by_cases h0 : wo w x = []
  · simp -implicitDefEqProofs only [z_bind_ok, z_bindS_ok, z_C, z_var, z_kVar, z_op, z_kOp, z_un, z_nil, z_cons, z_kCons, z_kCons2, z_app, z_bool, z_kBool, z_and, z_kAnd_t, z_kAnd_f, z_or, z_kOr_t, z_kOr_f, z_not, z_kNot, z_andE, z_kAndE_t, z_kAndE_f, z_orE, z_kOrE_t, z_kOrE_f, z_ifE, z_kIfE_t, z_kIfE_f, z_frz, z_frz_v, z_seq, z_seq_nx, z_seq_rt, z_seq_bk, z_seq_ct, z_drop, z_kDrop, z_ret, z_kRet, z_retN, z_set, z_kSet, z_if, z_kIf_t, z_kIf_f, z_par, z_kPar, z_asg, z_kAsg, z_kAsg2, z_next, z_break, z_cont, z_gSet, z_for_nil, z_for_cons, z_kFor, z_kFor_nx, z_kFor_ct, z_kFor_bk, z_kFor_rt, z_forI, z_kForI, List.getElem?_cons_zero, List.getElem?_cons_succ, List.set_cons_zero, List.set_cons_succ, lst_nil, ne_nil hv.tx, decide_eq_true h0, Bool.not_true]
  · have e1 : ∀ S, hTbL tb_sub_1 (hOwnB ct) hSub (od w) (.val (.str x)) S = .ok (od (wo w x)) S := fun S => by
      rw [d_sub0 okB_s, m_sub sub_s (by omega) hr h0 (Nat.ne_of_lt hlt), noNI_v]
    simp -implicitDefEqProofs only [z_bind_ok, z_bindS_ok, z_C, z_var, z_kVar, z_op, z_kOp, z_un, z_nil, z_cons, z_kCons, z_kCons2, z_app, z_bool, z_kBool, z_and, z_kAnd_t, z_kAnd_f, z_or, z_kOr_t, z_kOr_f, z_not, z_kNot, z_andE, z_kAndE_t, z_kAndE_f, z_orE, z_kOrE_t, z_kOrE_f, z_ifE, z_kIfE_t, z_kIfE_f, z_frz, z_frz_v, z_seq, z_seq_nx, z_seq_rt, z_seq_bk, z_seq_ct, z_drop, z_kDrop, z_ret, z_kRet, z_retN, z_set, z_kSet, z_if, z_kIf_t, z_kIf_f, z_par, z_kPar, z_asg, z_kAsg, z_kAsg2, z_next, z_break, z_cont, z_gSet, z_for_nil, z_for_cons, z_kFor, z_kFor_nx, z_kFor_ct, z_kFor_bk, z_kFor_rt, z_forI, z_kForI, List.getElem?_cons_zero, List.getElem?_cons_succ, List.set_cons_zero, List.set_cons_succ, lst_nil, ne_nil hv.tx, decide_eq_false h0, Bool.not_false, e1, is_ok hv h0, Bool.not_true]
theorem rw_tup : hTup [.val (.str "order"), .val (.str "'word'")] S = .ok (.val Rw1) S := rfl
theorem rw_ne : hTbL tb_eq_1 (hOwnNe ct) hNe (.val Rw1) (.val Rw1) S = .ok (.val (.bl false)) S := by kernel_rfl
theorem s_7 (hr : Row w) (hx : x ∈ w) : e__law_signs_right_7 (eS w a4 a5 (some (.val (.str x))) (some (tl (wo w x))) none none) S = .ok (.nx (eS w a4 a5 (some (.val (.str x))) (some (tl (wo w x))) none none)) S := by
  have hl := hr.le5
  have hv : Row (wo w x) := hr.fil _
  unfold e__law_signs_right_7
  by_cases h0 : wo w x = []
  · have e1 : eLam 4 e__law_heard (eOp (hTbL tb_sub_1 (hOwnB ct) hSub) (eVar 2) (eVar 6)) (eS w a4 a5 (some (.val (.str x))) (some (tl (wo w x))) none none) S = .ok (.val Rw1) S := by
      refine heard_word ?_
      simp -implicitDefEqProofs only [z_bind_ok, z_bindS_ok, z_C, z_var, z_kVar, z_op, z_kOp, z_un, z_nil, z_cons, z_kCons, z_kCons2, z_app, z_bool, z_kBool, z_and, z_kAnd_t, z_kAnd_f, z_or, z_kOr_t, z_kOr_f, z_not, z_kNot, z_andE, z_kAndE_t, z_kAndE_f, z_orE, z_kOrE_t, z_kOrE_f, z_ifE, z_kIfE_t, z_kIfE_f, z_frz, z_frz_v, z_seq, z_seq_nx, z_seq_rt, z_seq_bk, z_seq_ct, z_drop, z_kDrop, z_ret, z_kRet, z_retN, z_set, z_kSet, z_if, z_kIf_t, z_kIf_f, z_par, z_kPar, z_asg, z_kAsg, z_kAsg2, z_next, z_break, z_cont, z_gSet, z_for_nil, z_for_cons, z_kFor, z_kFor_nx, z_kFor_ct, z_kFor_bk, z_kFor_rt, z_forI, z_kForI, List.getElem?_cons_zero, List.getElem?_cons_succ, List.set_cons_zero, List.set_cons_succ, d_sub0 okB_s, m_subBad sub_s (by omega : w.length ≤ 100) hr (.inl h0), noNI_x]
    simp -implicitDefEqProofs only [z_bind_ok, z_bindS_ok, z_C, z_var, z_kVar, z_op, z_kOp, z_un, z_nil, z_cons, z_kCons, z_kCons2, z_app, z_bool, z_kBool, z_and, z_kAnd_t, z_kAnd_f, z_or, z_kOr_t, z_kOr_f, z_not, z_kNot, z_andE, z_kAndE_t, z_kAndE_f, z_orE, z_kOrE_t, z_kOrE_f, z_ifE, z_kIfE_t, z_kIfE_f, z_frz, z_frz_v, z_seq, z_seq_nx, z_seq_rt, z_seq_bk, z_seq_ct, z_drop, z_kDrop, z_ret, z_kRet, z_retN, z_set, z_kSet, z_if, z_kIf_t, z_kIf_f, z_par, z_kPar, z_asg, z_kAsg, z_kAsg2, z_next, z_break, z_cont, z_gSet, z_for_nil, z_for_cons, z_kFor, z_kFor_nx, z_kFor_ct, z_kFor_bk, z_kFor_rt, z_forI, z_kForI, List.getElem?_cons_zero, List.getElem?_cons_succ, List.set_cons_zero, List.set_cons_succ, lst_nil, eq_nil hv.tx, decide_eq_true h0, e1, rw_tup, rw_ne]
  · simp -implicitDefEqProofs only [z_bind_ok, z_bindS_ok, z_C, z_var, z_kVar, z_op, z_kOp, z_un, z_nil, z_cons, z_kCons, z_kCons2, z_app, z_bool, z_kBool, z_and, z_kAnd_t, z_kAnd_f, z_or, z_kOr_t, z_kOr_f, z_not, z_kNot, z_andE, z_kAndE_t, z_kAndE_f, z_orE, z_kOrE_t, z_kOrE_f, z_ifE, z_kIfE_t, z_kIfE_f, z_frz, z_frz_v, z_seq, z_seq_nx, z_seq_rt, z_seq_bk, z_seq_ct, z_drop, z_kDrop, z_ret, z_kRet, z_retN, z_set, z_kSet, z_if, z_kIf_t, z_kIf_f, z_par, z_kPar, z_asg, z_kAsg, z_kAsg2, z_next, z_break, z_cont, z_gSet, z_for_nil, z_for_cons, z_kFor, z_kFor_nx, z_kFor_ct, z_kFor_bk, z_kFor_rt, z_forI, z_kForI, List.getElem?_cons_zero, List.getElem?_cons_succ, List.set_cons_zero, List.set_cons_succ, lst_nil, eq_nil hv.tx, decide_eq_false h0]
abbrev S3 (p : Option Con) (k : Nat) : Store := [p, none, some (.lst (List.replicate k Rw1))]
theorem s_9 {a6 : Option A} (hr : Row w) (ho : Odd w d) : e__law_signs_right_9 (eS w a4 a5 a6 a7 (some (.val d)) none) [p, none] = .ok (.nx (eS w a4 a5 a6 a7 (some (.val d)) (some (.loc 2)))) (S3 p 1) := by
  have e1 : eLam 4 e__law_heard (eOp (hTbL tb_add_1 (hOwnB ct) hAdd) (eVar 2) (eVar 8)) (eS w a4 a5 a6 a7 (some (.val d)) none) [p, none] = .ok (.val Rw1) [p, none] := by
    refine heard_word ?_
    simp -implicitDefEqProofs only [z_bind_ok, z_bindS_ok, z_C, z_var, z_kVar, z_op, z_kOp, z_un, z_nil, z_cons, z_kCons, z_kCons2, z_app, z_bool, z_kBool, z_and, z_kAnd_t, z_kAnd_f, z_or, z_kOr_t, z_kOr_f, z_not, z_kNot, z_andE, z_kAndE_t, z_kAndE_f, z_orE, z_kOrE_t, z_kOrE_f, z_ifE, z_kIfE_t, z_kIfE_f, z_frz, z_frz_v, z_seq, z_seq_nx, z_seq_rt, z_seq_bk, z_seq_ct, z_drop, z_kDrop, z_ret, z_kRet, z_retN, z_set, z_kSet, z_if, z_kIf_t, z_kIf_f, z_par, z_kPar, z_asg, z_kAsg, z_kAsg2, z_next, z_break, z_cont, z_gSet, z_for_nil, z_for_cons, z_kFor, z_kFor_nx, z_kFor_ct, z_kFor_bk, z_kFor_rt, z_forI, z_kForI, List.getElem?_cons_zero, List.getElem?_cons_succ, List.set_cons_zero, List.set_cons_succ, d_add0 (ho.k _), m_addBad hr (ho.b w), noNI_x]
  have e2 : hLstN [.val Rw1] [p, none] = .ok (.loc 2) (S3 p 1) := rfl
  unfold e__law_signs_right_9
  simp -implicitDefEqProofs only [z_bind_ok, z_bindS_ok, z_C, z_var, z_kVar, z_op, z_kOp, z_un, z_nil, z_cons, z_kCons, z_kCons2, z_app, z_bool, z_kBool, z_and, z_kAnd_t, z_kAnd_f, z_or, z_kOr_t, z_kOr_f, z_not, z_kNot, z_andE, z_kAndE_t, z_kAndE_f, z_orE, z_kOrE_t, z_kOrE_f, z_ifE, z_kIfE_t, z_kIfE_f, z_frz, z_frz_v, z_seq, z_seq_nx, z_seq_rt, z_seq_bk, z_seq_ct, z_drop, z_kDrop, z_ret, z_kRet, z_retN, z_set, z_kSet, z_if, z_kIf_t, z_kIf_f, z_par, z_kPar, z_asg, z_kAsg, z_kAsg2, z_next, z_break, z_cont, z_gSet, z_for_nil, z_for_cons, z_kFor, z_kFor_nx, z_kFor_ct, z_kFor_bk, z_kFor_rt, z_forI, z_kForI, List.getElem?_cons_zero, List.getElem?_cons_succ, List.set_cons_zero, List.set_cons_succ, e1, e2]
theorem app_st {fe : Ev A} {k : Nat} {a6 : Option A} (h : fe (eS w a4 a5 a6 a7 a8 (some (.loc 2))) (S3 p k) = .ok (.val Rw1) (S3 p k)) (hk : k ≤ 10) : sDrop (eAppend (eVar 9) fe) (eS w a4 a5 a6 a7 a8 (some (.loc 2))) (S3 p k) = .ok (.nx (eS w a4 a5 a6 a7 a8 (some (.loc 2)))) (S3 p (k + 1)) := by
  rw [z_drop, append_ok (n := 2) (ds := List.replicate k Rw1) rfl h rfl (by simp; omega), z_bindS_ok, z_kDrop]
  rw [show List.replicate k Rw1 ++ [Rw1] = List.replicate (k + 1) Rw1 from List.replicate_succ'.symm]
  rfl
theorem s_10 {a6 : Option A} (hr : Row w) (ho : Odd w d) : e__law_signs_right_10 (eS w a4 a5 a6 a7 (some (.val d)) (some (.loc 2))) (S3 p 1) = .ok (.nx (eS w a4 a5 a6 a7 (some (.val d)) (some (.loc 2)))) (S3 p 2) := by
  have hl := hr.le5
  refine app_st (heard_word ?_) (by decide)
  have hs : Sub w d (fun _ => true) := fun y hy S => ho.s y (hr.w5 y hy) S
  simp -implicitDefEqProofs only [z_bind_ok, z_bindS_ok, z_C, z_var, z_kVar, z_op, z_kOp, z_un, z_nil, z_cons, z_kCons, z_kCons2, z_app, z_bool, z_kBool, z_and, z_kAnd_t, z_kAnd_f, z_or, z_kOr_t, z_kOr_f, z_not, z_kNot, z_andE, z_kAndE_t, z_kAndE_f, z_orE, z_kOrE_t, z_kOrE_f, z_ifE, z_kIfE_t, z_kIfE_f, z_frz, z_frz_v, z_seq, z_seq_nx, z_seq_rt, z_seq_bk, z_seq_ct, z_drop, z_kDrop, z_ret, z_kRet, z_retN, z_set, z_kSet, z_if, z_kIf_t, z_kIf_f, z_par, z_kPar, z_asg, z_kAsg, z_kAsg2, z_next, z_break, z_cont, z_gSet, z_for_nil, z_for_cons, z_kFor, z_kFor_nx, z_kFor_ct, z_kFor_bk, z_kFor_rt, z_forI, z_kForI, List.getElem?_cons_zero, List.getElem?_cons_succ, List.set_cons_zero, List.set_cons_succ, d_sub0 (ho.k _), m_subBad hs (by omega : w.length ≤ 100) hr (.inr (by rw [List.filter_eq_self.mpr fun _ _ => rfl])), noNI_x]
theorem s_11 (hr : Row w) (hx : x ∈ w) : e__law_signs_right_11 (eS w a4 a5 (some (.val (.str x))) a7 a8 (some (.loc 2))) (S3 p 2) = .ok (.nx (eS w a4 a5 (some (.val (.str x))) a7 a8 (some (.loc 2)))) (S3 p 3) := by
  refine app_st (heard_word ?_) (by decide)
  simp -implicitDefEqProofs only [z_bind_ok, z_bindS_ok, z_C, z_var, z_kVar, z_op, z_kOp, z_un, z_nil, z_cons, z_kCons, z_kCons2, z_app, z_bool, z_kBool, z_and, z_kAnd_t, z_kAnd_f, z_or, z_kOr_t, z_kOr_f, z_not, z_kNot, z_andE, z_kAndE_t, z_kAndE_f, z_orE, z_kOrE_t, z_kOrE_f, z_ifE, z_kIfE_t, z_kIfE_f, z_frz, z_frz_v, z_seq, z_seq_nx, z_seq_rt, z_seq_bk, z_seq_ct, z_drop, z_kDrop, z_ret, z_kRet, z_retN, z_set, z_kSet, z_if, z_kIf_t, z_kIf_f, z_par, z_kPar, z_asg, z_kAsg, z_kAsg2, z_next, z_break, z_cont, z_gSet, z_for_nil, z_for_cons, z_kFor, z_kFor_nx, z_kFor_ct, z_kFor_bk, z_kFor_rt, z_forI, z_kForI, List.getElem?_cons_zero, List.getElem?_cons_succ, List.set_cons_zero, List.set_cons_succ, d_add0 okB_s, m_addBad hr (.inr ⟨x, rfl, hr.tx x hx, .inr hx⟩), noNI_x]
theorem ix_l {ds : List D} {k : Nat} (h : k < ds.length) : hTbL tb_getitem_1 hOwnIx hIx (.val (.lst ds)) (.val (.int k)) S = .ok (.val ds[k]) S := by
  have ea : L2.atI ds (k : Int) = some ds[k] := by
    unfold L2.atI ixN
    rw [if_pos (by omega), if_pos (by omega)]
    simp [h]
  rw [show hTbL tb_getitem_1 hOwnIx hIx (.val (.lst ds)) (.val (.int k)) S = hIx (.val (.lst ds)) (.val (.int k)) S from by kernel_rfl]
  unfold hIx lst?
  simp only [ea]
theorem s_12 {a6 : Option A} (hr : Row w) : e__law_signs_right_12 (eS w a4 a5 a6 a7 a8 (some (.loc 2))) (S3 p 3) = .ok (.nx (eS w a4 a5 a6 a7 a8 (some (.loc 2)))) (S3 p 4) := by
  have hl := hr.le5
  have hl2 := (lf_row (w := w)).le5
  refine app_st (heard_word ?_) (by decide)
  have e1 : ∀ S, hTbL tb_add_1 (hOwnB ct) hAdd (tl (lf w)) (.val (.lst [.non])) S = .ok (.val (.lst (ts (lf w) ++ [.non]))) S := fun S => by
    rw [show hTbL tb_add_1 (hOwnB ct) hAdd (tl (lf w)) (.val (.lst [.non])) S = hAdd (tl (lf w)) (.val (.lst [.non])) S from by kernel_rfl, add_ll (by simp; omega)]
  have e2 : ∀ S, hLst [.val .non] S = .ok (.val (.lst [.non])) S := fun _ => rfl
  have e3 : ∃ z, (∀ S, hTbL tb_getitem_1 hOwnIx hIx (.val (.lst (ts (lf w) ++ [.non]))) (.val (.int 0)) S = .ok (.val z) S) ∧ (∀ S : Store, okB ct S (.val z) = true) ∧ Sub w z (fun _ => true) := by
    cases h : lf w with
    | nil =>
      have ho := odd9_ok (w := w) .non (by simp [odd9])
      exact ⟨.non, fun S => by kernel_rfl, ho.k, fun y hy S => ho.s y (hr.w5 y hy) S⟩
    | cons z l =>
      have hz : z ∉ w := lf_not (w := w) (by rw [h]; exact List.mem_cons_self ..)
      refine ⟨.str z, fun S => ix_l (ds := ts (z :: l) ++ [.non]) (k := 0) (by simp), fun S => okB_s, fun y hy S => ?_⟩
      rw [sub_s (w := w) (x := z) y hy S]
      show Out.ok (A.val (.bl (!(y == z)))) S = _
      rw [show (y == z) = false from beq_eq_false_iff_ne.mpr fun e => hz (e ▸ hy)]
      rfl
  obtain ⟨z, h1, h2, h3⟩ := e3
  simp -implicitDefEqProofs only [z_bind_ok, z_bindS_ok, z_C, z_var, z_kVar, z_op, z_kOp, z_un, z_nil, z_cons, z_kCons, z_kCons2, z_app, z_bool, z_kBool, z_and, z_kAnd_t, z_kAnd_f, z_or, z_kOr_t, z_kOr_f, z_not, z_kNot, z_andE, z_kAndE_t, z_kAndE_f, z_orE, z_kOrE_t, z_kOrE_f, z_ifE, z_kIfE_t, z_kIfE_f, z_frz, z_frz_v, z_seq, z_seq_nx, z_seq_rt, z_seq_bk, z_seq_ct, z_drop, z_kDrop, z_ret, z_kRet, z_retN, z_set, z_kSet, z_if, z_kIf_t, z_kIf_f, z_par, z_kPar, z_asg, z_kAsg, z_kAsg2, z_next, z_break, z_cont, z_gSet, z_for_nil, z_for_cons, z_kFor, z_kFor_nx, z_kFor_ct, z_kFor_bk, z_kFor_rt, z_forI, z_kForI, List.getElem?_cons_zero, List.getElem?_cons_succ, List.set_cons_zero, List.set_cons_succ, e2, e1, h1, d_sub0 (h2 _), m_subBad h3 (by omega : w.length ≤ 100) hr (.inr (by rw [List.filter_eq_self.mpr fun _ _ => rfl])), noNI_x]
theorem s_13 {a6 : Option A} (hr : Row w) (hne : w ≠ []) : e__law_signs_right_13 (eS w a4 a5 a6 a7 a8 (some (.loc 2))) (S3 p 4) = .ok (.rt (.val (.bl true))) (S3 p 4) := by
  have e2 : ∀ S, hLst [.val Rw1] S = .ok (.val (.lst [Rw1])) S := fun _ => rfl
  have e3 : ∀ S, hMulA (.val (.lst [Rw1])) (.val (.int 4)) S = .ok (.val (.lst [Rw1, Rw1, Rw1, Rw1])) S := fun _ => by kernel_rfl
  have e4 : hTbL tb_eq_1 (hOwnCmp ct) hEq (.loc 2) (.val (.lst [Rw1, Rw1, Rw1, Rw1])) (S3 p 4) = .ok (.val (.bl true)) (S3 p 4) := by kernel_rfl
  have e5 : hTbL tb_eq_1 (hOwnCmp ct) hEq (od w) (od w) (S3 p 4) = .ok (.val (.bl true)) (S3 p 4) := by
    rw [d_eq hr.tx hr.tx, decide_eq_true rfl]
  unfold e__law_signs_right_13
  simp -implicitDefEqProofs only [z_bind_ok, z_bindS_ok, z_C, z_var, z_kVar, z_op, z_kOp, z_un, z_nil, z_cons, z_kCons, z_kCons2, z_app, z_bool, z_kBool, z_and, z_kAnd_t, z_kAnd_f, z_or, z_kOr_t, z_kOr_f, z_not, z_kNot, z_andE, z_kAndE_t, z_kAndE_f, z_orE, z_kOrE_t, z_kOrE_f, z_ifE, z_kIfE_t, z_kIfE_f, z_frz, z_frz_v, z_seq, z_seq_nx, z_seq_rt, z_seq_bk, z_seq_ct, z_drop, z_kDrop, z_ret, z_kRet, z_retN, z_set, z_kSet, z_if, z_kIf_t, z_kIf_f, z_par, z_kPar, z_asg, z_kAsg, z_kAsg2, z_next, z_break, z_cont, z_gSet, z_for_nil, z_for_cons, z_kFor, z_kFor_nx, z_kFor_ct, z_kFor_bk, z_kFor_rt, z_forI, z_kForI, List.getElem?_cons_zero, List.getElem?_cons_succ, List.set_cons_zero, List.set_cons_succ, rw_tup, e2, e3, e4, made_ok hr hne hr.le5, e5]
theorem signs_ok (h : Pn n p) (hn : n ≤ 50000) (hr : Row w) (hne : w ≠ []) : ∃ p', Pn (n + 2) p' ∧ callG 2 g__law_signs_right [] [.loc 0, tl w] [p] = .ok (.val (.bl true)) [p'] := by
  obtain ⟨a4, a5, e3⟩ := s_3 (S := [p, none]) hr hne
  obtain ⟨p1, dx, h1, hx0, e4⟩ := pick_st (T := [none]) (ds := ts w) h (by omega) (by simpa using hne) (by have := hr.le5; simp; omega)
  obtain ⟨x, hx, rfl⟩ := List.mem_map.mp hx0
  obtain ⟨p2, d, h2, hd, e8⟩ := pick_st (T := [none]) (ds := odd9 w) h1 (by omega) (by simp [odd9]) (by simp [odd9])
  have ho := odd9_ok d hd
  refine ⟨p2, by rw [show n + 2 = n + 1 + 1 from by omega]; exact h2, ?_⟩
  show defF 10 e__law_signs_right [_, _] [p] = _
  have es : startE 10 [.loc 0, tl w] = [some (.loc 0), some (tl w), none, none, none, none, none, none, none, none] := rfl
  have e2 : e__law_signs_right_2 (eS w none none none none none none) [p, none] = .ok (.nx (eS w (some (od w)) none none none none none)) [p, none] := rfl
  have e4' : e__law_signs_right_4 (eS w a4 a5 none none none none) [p, none] = .ok (.nx (eS w a4 a5 (some (.val (.str x))) none none none)) [p1, none] := by
    unfold e__law_signs_right_4
    simp -implicitDefEqProofs only [z_bind_ok, z_bindS_ok, z_C, z_var, z_kVar, z_op, z_kOp, z_un, z_nil, z_cons, z_kCons, z_kCons2, z_app, z_bool, z_kBool, z_and, z_kAnd_t, z_kAnd_f, z_or, z_kOr_t, z_kOr_f, z_not, z_kNot, z_andE, z_kAndE_t, z_kAndE_f, z_orE, z_kOrE_t, z_kOrE_f, z_ifE, z_kIfE_t, z_kIfE_f, z_frz, z_frz_v, z_seq, z_seq_nx, z_seq_rt, z_seq_bk, z_seq_ct, z_drop, z_kDrop, z_ret, z_kRet, z_retN, z_set, z_kSet, z_if, z_kIf_t, z_kIf_f, z_par, z_kPar, z_asg, z_kAsg, z_kAsg2, z_next, z_break, z_cont, z_gSet, z_for_nil, z_for_cons, z_kFor, z_kFor_nx, z_kFor_ct, z_kFor_bk, z_kFor_rt, z_forI, z_kForI, List.getElem?_cons_zero, List.getElem?_cons_succ, List.set_cons_zero, List.set_cons_succ, e4]
  have el : hLst [.val .non, .val (.int 0), .val (.str ""), .val (.str "blocks"), .val (.str "journal"), .val (.tup [.str "block"]), .val (.bl true), od w, .val (.lst [])] [p1, none] = .ok (.val (.lst (odd9 w))) [p1, none] := rfl
  have et : ∀ S, hTup [.val (.str "block")] S = .ok (.val (.tup [.str "block"])) S := fun _ => rfl
  have e8' : e__law_signs_right_8 (eS w a4 a5 (some (.val (.str x))) (some (tl (wo w x))) none none) [p1, none] = .ok (.nx (eS w a4 a5 (some (.val (.str x))) (some (tl (wo w x))) (some (.val d)) none)) [p2, none] := by
    unfold e__law_signs_right_8
    simp -implicitDefEqProofs only [z_bind_ok, z_bindS_ok, z_C, z_var, z_kVar, z_op, z_kOp, z_un, z_nil, z_cons, z_kCons, z_kCons2, z_app, z_bool, z_kBool, z_and, z_kAnd_t, z_kAnd_f, z_or, z_kOr_t, z_kOr_f, z_not, z_kNot, z_andE, z_kAndE_t, z_kAndE_f, z_orE, z_kOrE_t, z_kOrE_f, z_ifE, z_kIfE_t, z_kIfE_f, z_frz, z_frz_v, z_seq, z_seq_nx, z_seq_rt, z_seq_bk, z_seq_ct, z_drop, z_kDrop, z_ret, z_kRet, z_retN, z_set, z_kSet, z_if, z_kIf_t, z_kIf_f, z_par, z_kPar, z_asg, z_kAsg, z_kAsg2, z_next, z_break, z_cont, z_gSet, z_for_nil, z_for_cons, z_kFor, z_kFor_nx, z_kFor_ct, z_kFor_bk, z_kFor_rt, z_forI, z_kForI, List.getElem?_cons_zero, List.getElem?_cons_succ, List.set_cons_zero, List.set_cons_succ, et, lst_nil, el, e8]
  rw [z_def, es]
  unfold e__law_signs_right
  rw [z_seq, s_0 hr hne, z_seq_nx, z_seq, show ([p] ++ [none] : Store) = [p, none] from rfl, s_1 hr hne, z_seq_nx, z_seq, e2, z_seq_nx, z_seq, e3, z_seq_nx, z_seq, e4', z_seq_nx, z_seq, s_5 hr, z_seq_nx, z_seq, s_6 hr hx, z_seq_nx, z_seq, s_7 hr hx, z_seq_nx, z_seq, e8', z_seq_nx, z_seq, s_9 hr ho, z_seq_nx, z_seq, s_10 hr ho, z_seq_nx, z_seq, s_11 hr hx, z_seq_nx, z_seq, s_12 hr, z_seq_nx, s_13 hr hne, z_kDef_v]
  rfl
end
end Lw


namespace Lw
open PySem L2 R
section
variable {S T : Store} {x y : Str} {d : D} {w v pre : List Str} {n : Int} {p : Option Con} {env : R.Env}
def odd9b : List D := [.non, .int 0, .str "", .str "blocks", .str "journal", .tup [.str "block"], .bl true, .lst [], .dic [] []]
/-- what is no word, and its text -/
structure OddT (pre : List Str) (d : D) : Prop where
  b : BadAt pre d
  t : ∃ t : Str, (∀ S : Store, hTbC tb_str_1 hOwnStr hStrC [.val d] S = .ok (.val (.str t)) S) ∧ 32 ∉ TL.tl t ∧ t.length ≤ 20 ∧ BadAt pre (.str t)
theorem oddT_s (hx : PyData.strOk x = true) (h : x ∉ W5) (h1 : 32 ∉ TL.tl x) (h2 : x.length ≤ 20) : OddT pre (.str x) := ⟨.inr ⟨x, rfl, hx, .inl h⟩, x, fun _ => rfl, h1, h2, .inr ⟨x, rfl, hx, .inl h⟩⟩
theorem oddT_c (t : Str) (h0 : NonS d) (h3 : ∀ S : Store, hTbC tb_str_1 hOwnStr hStrC [.val d] S = .ok (.val (.str t)) S) (hx : PyData.strOk t = true) (h : t ∉ W5) (h1 : 32 ∉ TL.tl t) (h2 : t.length ≤ 20) : OddT pre d := ⟨.inl h0, t, h3, h1, h2, .inr ⟨t, rfl, hx, .inl h⟩⟩
theorem odd9b_ok : ∀ d ∈ odd9b, OddT pre d := by
  intro d hd
  simp only [odd9b, List.mem_cons, List.not_mem_nil, or_false] at hd
  rcases hd with rfl | rfl | rfl | rfl | rfl | rfl | rfl | rfl | rfl
  · exact oddT_c "None" (fun S => by kernel_rfl) (fun S => by kernel_rfl) (by decide +kernel) (by decide +kernel) (by decide +kernel) (by decide +kernel)
  · exact oddT_c "0" (fun S => by kernel_rfl) (fun S => by kernel_rfl) (by decide +kernel) (by decide +kernel) (by decide +kernel) (by decide +kernel)
  · exact oddT_s (by decide +kernel) (by decide +kernel) (by decide +kernel) (by decide +kernel)
  · exact oddT_s (by decide +kernel) (by decide +kernel) (by decide +kernel) (by decide +kernel)
  · exact oddT_s (by decide +kernel) (by decide +kernel) (by decide +kernel) (by decide +kernel)
  · exact oddT_c "('block',)" (fun S => by kernel_rfl) (fun S => by kernel_rfl) (by decide +kernel) (by decide +kernel) (by decide +kernel) (by decide +kernel)
  · exact oddT_c "True" (fun S => by kernel_rfl) (fun S => by kernel_rfl) (by decide +kernel) (by decide +kernel) (by decide +kernel) (by decide +kernel)
  · exact oddT_c "[]" (fun S => by kernel_rfl) (fun S => by kernel_rfl) (by decide +kernel) (by decide +kernel) (by decide +kernel) (by decide +kernel)
  · exact oddT_c "{}" (fun S => by kernel_rfl) (fun S => by kernel_rfl) (by decide +kernel) (by decide +kernel) (by decide +kernel) (by decide +kernel)
abbrev eR (w : List Str) (a2 a3 a4 a5 a6 : Option A) : R.Env := [some (.loc 0), some (tl w), a2, a3, a4, a5, a6, none]
def spo (w : List Str) (k : Nat) (d : D) : List D := ts (w.take k) ++ d :: ts (w.drop (k + 1))
theorem Row.take (hr : Row w) (k : Nat) : Row (w.take k) := ⟨(List.take_sublist k w).nodup hr.nd, fun x hx => hr.w5 x (List.mem_of_mem_take hx)⟩
theorem sl_to {i : Nat} {a : A} {k : Nat} {f : EvO} {ds : List D} (h1 : env[i]? = some (some (.val (.lst ds)))) (hf : f env S = .ok (some (k : Int)) S) (hk : k ≤ ds.length) : eSlA (eVar i) oNone f env S = .ok (.val (.lst (ds.take k))) S := by
  unfold eSlA
  rw [z_var, h1, z_kVar, z_bind_ok]
  show (f env S).bind _ = _
  rw [hf, z_bind_ok]
  show Out.ok (A.val (.lst (cutD ds none (some (k : Int))))) S = _
  rw [cut_take _ _ hk]
theorem cut_drop (ds : List D) (k : Nat) (h : k ≤ ds.length) : cutD ds (some (k : Int)) none = ds.drop k := by
  unfold cutD
  have e1 : HT.sIx ds.length ds.length none = ds.length := rfl
  have e2 : HT.sIx ds.length 0 (some (k : Int)) = min k ds.length := by
    unfold HT.sIx
    simp
    omega
  rw [e1, e2, Nat.min_eq_left h, List.take_of_length_le (by simp)]
theorem sl_from {i : Nat} {a : A} {k : Nat} {f : EvO} {ds : List D} (h1 : env[i]? = some (some (.val (.lst ds)))) (hf : f env S = .ok (some (k : Int)) S) (hk : k ≤ ds.length) : eSlA (eVar i) f oNone env S = .ok (.val (.lst (ds.drop k))) S := by
  unfold eSlA
  rw [z_var, h1, z_kVar, z_bind_ok, hf, z_bind_ok]
  show Out.ok (A.val (.lst (cutD ds (some (k : Int)) none))) S = _
  rw [cut_drop _ _ hk]
theorem add_ll' {xs ys : List D} (h : xs.length + ys.length ≤ 1000) : hTbL tb_add_1 (hOwnB ct) hAdd (.val (.lst xs)) (.val (.lst ys)) S = .ok (.val (.lst (xs ++ ys))) S := by
  rw [show hTbL tb_add_1 (hOwnB ct) hAdd (.val (.lst xs)) (.val (.lst ys)) S = hAdd (.val (.lst xs)) (.val (.lst ys)) S from by kernel_rfl, add_ll h]
theorem lst1 {a : D} : hLst [.val a] S = .ok (.val (.lst [a])) S := rfl
theorem lst2 {a b : D} : hLst [.val a, .val b] S = .ok (.val (.lst [a, b])) S := rfl
theorem r_1 {k : Nat} (h : Pn n p) (hn : n ≤ 60000) (hr : Row w) (hk : k < w.length) (ho : ∀ pre, OddT pre d) : ∃ p' e, Pn (n + 1) p' ∧ OddT (w.take k) e ∧
    e__law_refused_right_1 (eR w (some (.val d)) (some (.val (.int k))) none none none) (p :: T) = .ok (.nx (eR w (some (.val d)) (some (.val (.int k))) (some (.val (.lst (spo w k e)))) none none)) (p' :: T) := by
  have hl := hr.le5
  have hz : ∃ z, (ts (w.take k) ++ [d])[0]? = some z ∧ OddT (w.take k) z := by
    cases hw : w.take k with
    | nil => exact ⟨d, rfl, ho _⟩
    | cons y l =>
      have hy : y ∈ w.take k := by rw [hw]; exact List.mem_cons_self ..
      have h5 := (hr.take k).w5 y hy
      have hb : BadAt (y :: l) (.str y) := .inr ⟨y, rfl, w5_tx y h5, .inr (List.mem_cons_self ..)⟩
      exact ⟨.str y, rfl, hb, y, fun _ => rfl, w5_sp y h5, w5_len y h5, hb⟩
  obtain ⟨z, hz1, hz2⟩ := hz
  obtain ⟨p', e, h1, he, e1⟩ := pick_st (T := T) (ds := [d, z]) h (by omega) (by simp) (by simp)
  refine ⟨p', e, h1, ?_, ?_⟩
  · simp only [List.mem_cons, List.not_mem_nil, or_false] at he
    rcases he with rfl | rfl
    · exact ho _
    · exact hz2
  · have hk2 : k ≤ (ts w).length := by simp; omega
    have o1 : ∀ S, oSome (eVar 3) (eR w (some (.val d)) (some (.val (.int k))) none none none) S = .ok (some (k : Int)) S := fun S => rfl
    have o2 : ∀ S, oSome (eOp (hTbL tb_add_1 (hOwnB ct) hAdd) (eVar 3) (eC (.int 1))) (eR w (some (.val d)) (some (.val (.int k))) none none none) S = .ok (some ((k + 1 : Nat) : Int)) S := fun S => rfl
    have l1 : ∀ S, eSlA (eVar 1) oNone (oSome (eVar 3)) (eR w (some (.val d)) (some (.val (.int k))) none none none) S = .ok (tl (w.take k)) S := fun S => by
      rw [sl_to (a := .loc 0) (ds := ts w) rfl (o1 S) hk2, ts, ← List.map_take]
    have l2 : ∀ S, eSlA (eVar 1) (oSome (eOp (hTbL tb_add_1 (hOwnB ct) hAdd) (eVar 3) (eC (.int 1)))) oNone (eR w (some (.val d)) (some (.val (.int k))) none none none) S = .ok (tl (w.drop (k + 1))) S := fun S => by
      rw [sl_from (a := .loc 0) (ds := ts w) rfl (o2 S) (by simp; omega), ts, ← List.map_drop]
    have g1 : ∀ S, hTbL tb_getitem_1 hOwnIx hIx (.val (.lst (ts (w.take k) ++ [d]))) (.val (.int 0)) S = .ok (.val z) S := fun S => by
      obtain ⟨h0, h00⟩ := List.getElem?_eq_some_iff.mp hz1
      rw [← h00]
      exact ix_l (k := 0) h0
    have a1 : ∀ S, hTbL tb_add_1 (hOwnB ct) hAdd (tl (w.take k)) (.val (.lst [d])) S = .ok (.val (.lst (ts (w.take k) ++ [d]))) S := fun S => add_ll' (by simp; omega)
    have a2 : ∀ S, hTbL tb_add_1 (hOwnB ct) hAdd (tl (w.take k)) (.val (.lst [e])) S = .ok (.val (.lst (ts (w.take k) ++ [e]))) S := fun S => add_ll' (by simp; omega)
    have a3 : ∀ S, hTbL tb_add_1 (hOwnB ct) hAdd (.val (.lst (ts (w.take k) ++ [e]))) (tl (w.drop (k + 1))) S = .ok (.val (.lst (spo w k e))) S := fun S => by
      rw [add_ll' (by simp; omega)]
      simp [spo]
    unfold e__law_refused_right_1
    simp -implicitDefEqProofs only [z_bind_ok, z_bindS_ok, z_C, z_var, z_kVar, z_op, z_kOp, z_un, z_nil, z_cons, z_kCons, z_kCons2, z_app, z_bool, z_kBool, z_and, z_kAnd_t, z_kAnd_f, z_or, z_kOr_t, z_kOr_f, z_not, z_kNot, z_andE, z_kAndE_t, z_kAndE_f, z_orE, z_kOrE_t, z_kOrE_f, z_ifE, z_kIfE_t, z_kIfE_f, z_frz, z_frz_v, z_seq, z_seq_nx, z_seq_rt, z_seq_bk, z_seq_ct, z_drop, z_kDrop, z_ret, z_kRet, z_retN, z_set, z_kSet, z_if, z_kIf_t, z_kIf_f, z_par, z_kPar, z_asg, z_kAsg, z_kAsg2, z_next, z_break, z_cont, z_gSet, z_for_nil, z_for_cons, z_kFor, z_kFor_nx, z_kFor_ct, z_kFor_bk, z_kFor_rt, z_forI, z_kForI, List.getElem?_cons_zero, List.getElem?_cons_succ, List.set_cons_zero, List.set_cons_succ, l1, l2, lst1, lst2, a1, g1, e1, a2, a3]
theorem spo_len {k : Nat} (hk : k < w.length) : (spo w k d).length = w.length := by
  simp [spo]
  omega
theorem k_cases {k : Nat} (h : k < 5) : k = 0 ∨ k = 1 ∨ k = 2 ∨ k = 3 ∨ k = 4 := by omega
/-- what is told of a place -/
theorem told_at {k : Nat} (h : k < 5) : ∃ t : Str, (∀ S : Store, hRepr [.val (.int (k : Nat))] S = .ok (.val (.str t)) S) ∧ (∀ S S2 : Store, e__law_heard (fun _ => .exc 5 ["part"] [.int (k : Nat)] S2) (startE 4 [.fv 0]) S = .ok (.rt (.val (.tup [.str "order", .str t]))) S2) ∧ ∀ S : Store, hTbL tb_eq_1 (hOwnNe ct) hNe (.val (.tup [.str "order", .str t])) (.val (.tup [.str "order", .str t])) S = .ok (.val (.bl false)) S := by
  rcases k_cases h with rfl | rfl | rfl | rfl | rfl
  · exact ⟨"0", fun S => by kernel_rfl, fun S S2 => by kernel_rfl, fun S => by kernel_rfl⟩
  · exact ⟨"1", fun S => by kernel_rfl, fun S S2 => by kernel_rfl, fun S => by kernel_rfl⟩
  · exact ⟨"2", fun S => by kernel_rfl, fun S S2 => by kernel_rfl, fun S => by kernel_rfl⟩
  · exact ⟨"3", fun S => by kernel_rfl, fun S S2 => by kernel_rfl, fun S => by kernel_rfl⟩
  · exact ⟨"4", fun S => by kernel_rfl, fun S S2 => by kernel_rfl, fun S => by kernel_rfl⟩
theorem tup2 {a b : D} : hTup [.val a, .val b] S = .ok (.val (.tup [a, b])) S := rfl
theorem tup3 {a b c : D} : hTup [.val a, .val b, .val c] S = .ok (.val (.tup [a, b, c])) S := rfl
theorem r_2 {k : Nat} {a2 : Option A} {e : D} (hr : Row w) (hk : k < w.length) (ho : OddT (w.take k) e) : e__law_refused_right_2 (eR w a2 (some (.val (.int k))) (some (.val (.lst (spo w k e)))) none none) S = .ok (.nx (eR w a2 (some (.val (.int k))) (some (.val (.lst (spo w k e)))) none none)) S := by
  have hl := hr.le5
  obtain ⟨t, t1, t2, t3⟩ := told_at (k := k) (by omega)
  have e1 : eLam 4 e__law_heard (eApp (callG 1 g__law_made []) (eCons (eVar 4) (eNil))) (eR w a2 (some (.val (.int k))) (some (.val (.lst (spo w k e)))) none none) S = .ok (.val (.tup [.str "order", .str t])) S := by
    refine heard_exc (S2 := S) ?_ (List.take_length ..) t2
    have := made_bad (S := S) (ds := spo w k e) rfl (hr.take k) ho.b (by rw [spo_len hk]; omega)
    rw [List.length_take, Nat.min_eq_left (by omega)] at this
    simp -implicitDefEqProofs only [z_bind_ok, z_bindS_ok, z_C, z_var, z_kVar, z_op, z_kOp, z_un, z_nil, z_cons, z_kCons, z_kCons2, z_app, z_bool, z_kBool, z_and, z_kAnd_t, z_kAnd_f, z_or, z_kOr_t, z_kOr_f, z_not, z_kNot, z_andE, z_kAndE_t, z_kAndE_f, z_orE, z_kOrE_t, z_kOrE_f, z_ifE, z_kIfE_t, z_kIfE_f, z_frz, z_frz_v, z_seq, z_seq_nx, z_seq_rt, z_seq_bk, z_seq_ct, z_drop, z_kDrop, z_ret, z_kRet, z_retN, z_set, z_kSet, z_if, z_kIf_t, z_kIf_f, z_par, z_kPar, z_asg, z_kAsg, z_kAsg2, z_next, z_break, z_cont, z_gSet, z_for_nil, z_for_cons, z_kFor, z_kFor_nx, z_kFor_ct, z_kFor_bk, z_kFor_rt, z_forI, z_kForI, List.getElem?_cons_zero, List.getElem?_cons_succ, List.set_cons_zero, List.set_cons_succ, this]
  unfold e__law_refused_right_2
  simp -implicitDefEqProofs only [z_bind_ok, z_bindS_ok, z_C, z_var, z_kVar, z_op, z_kOp, z_un, z_nil, z_cons, z_kCons, z_kCons2, z_app, z_bool, z_kBool, z_and, z_kAnd_t, z_kAnd_f, z_or, z_kOr_t, z_kOr_f, z_not, z_kNot, z_andE, z_kAndE_t, z_kAndE_f, z_orE, z_kOrE_t, z_kOrE_f, z_ifE, z_kIfE_t, z_kIfE_f, z_frz, z_frz_v, z_seq, z_seq_nx, z_seq_rt, z_seq_bk, z_seq_ct, z_drop, z_kDrop, z_ret, z_kRet, z_retN, z_set, z_kSet, z_if, z_kIf_t, z_kIf_f, z_par, z_kPar, z_asg, z_kAsg, z_kAsg2, z_next, z_break, z_cont, z_gSet, z_for_nil, z_for_cons, z_kFor, z_kFor_nx, z_kFor_ct, z_kFor_bk, z_kFor_rt, z_forI, z_kForI, List.getElem?_cons_zero, List.getElem?_cons_succ, List.set_cons_zero, List.set_cons_succ, e1, t1, tup2, t3]
theorem r_3 : e__law_refused_right_3 env S = .ok (.nx env) S := by
  have e1 : eLam 4 e__law_heard (eApp (kMake 11 (starG 1 g_Order___init__)) eNil) env S = .ok (.val (.tup [.str "order", .str "'words'"])) S := by
    refine heard_exc (c := 5) (ns := ["part"]) (vs := [.str "words"]) (S2 := S ++ [new11]) ?_ List.take_left fun S S2 => by kernel_rfl
    simp -implicitDefEqProofs only [z_bind_ok, z_bindS_ok, z_C, z_var, z_kVar, z_op, z_kOp, z_un, z_nil, z_cons, z_kCons, z_kCons2, z_app, z_bool, z_kBool, z_and, z_kAnd_t, z_kAnd_f, z_or, z_kOr_t, z_kOr_f, z_not, z_kNot, z_andE, z_kAndE_t, z_kAndE_f, z_orE, z_kOrE_t, z_kOrE_f, z_ifE, z_kIfE_t, z_kIfE_f, z_frz, z_frz_v, z_seq, z_seq_nx, z_seq_rt, z_seq_bk, z_seq_ct, z_drop, z_kDrop, z_ret, z_kRet, z_retN, z_set, z_kSet, z_if, z_kIf_t, z_kIf_f, z_par, z_kPar, z_asg, z_kAsg, z_kAsg2, z_next, z_break, z_cont, z_gSet, z_for_nil, z_for_cons, z_kFor, z_kFor_nx, z_kFor_ct, z_kFor_bk, z_kFor_rt, z_forI, z_kForI, List.getElem?_cons_zero, List.getElem?_cons_succ, List.set_cons_zero, List.set_cons_succ, init_nil]
  have e2 : ∀ S, hTbL tb_eq_1 (hOwnNe ct) hNe (.val (.tup [.str "order", .str "'words'"])) (.val (.tup [.str "order", .str "'words'"])) S = .ok (.val (.bl false)) S := fun S => by kernel_rfl
  unfold e__law_refused_right_3
  simp -implicitDefEqProofs only [z_bind_ok, z_bindS_ok, z_C, z_var, z_kVar, z_op, z_kOp, z_un, z_nil, z_cons, z_kCons, z_kCons2, z_app, z_bool, z_kBool, z_and, z_kAnd_t, z_kAnd_f, z_or, z_kOr_t, z_kOr_f, z_not, z_kNot, z_andE, z_kAndE_t, z_kAndE_f, z_orE, z_kOrE_t, z_kOrE_f, z_ifE, z_kIfE_t, z_kIfE_f, z_frz, z_frz_v, z_seq, z_seq_nx, z_seq_rt, z_seq_bk, z_seq_ct, z_drop, z_kDrop, z_ret, z_kRet, z_retN, z_set, z_kSet, z_if, z_kIf_t, z_kIf_f, z_par, z_kPar, z_asg, z_kAsg, z_kAsg2, z_next, z_break, z_cont, z_gSet, z_for_nil, z_for_cons, z_kFor, z_kFor_nx, z_kFor_ct, z_kFor_bk, z_kFor_rt, z_forI, z_kForI, List.getElem?_cons_zero, List.getElem?_cons_succ, List.set_cons_zero, List.set_cons_succ, e1, tup2, e2]
def fars (w : List Str) : List D := [.int (-1), .int w.length, .non, .bl true, .str "0", .tup [.int 0], .int (10 ^ 20)]
structure Far (w : List Str) (d : D) : Prop where
  b : ∀ (m : Int) (S : Store), m = (w.length : Int) - 1 → callG 3 g_is_between [] [.val d, .val (.int 0), .val (.int m)] S = .ok (.val (.bl false)) S
  t : ∃ t : Str, (∀ S : Store, hRepr [.val d] S = .ok (.val (.str t)) S) ∧ (∀ S S2 : Store, e__law_heard (fun _ => .exc 7 ["value"] [d] S2) (startE 4 [.fv 0]) S = .ok (.rt (.val (.tup [.str "count", .str t]))) S2) ∧ ∀ S : Store, hTbL tb_eq_1 (hOwnNe ct) hNe (.val (.tup [.str "count", .str t])) (.val (.tup [.str "count", .str t])) S = .ok (.val (.bl false)) S
theorem nonI_of (h : ∀ S : Store, callG 1 g_is_integer [] [.val d] S = .ok (.val (.bl false)) (S.take S.length)) : NonI d := fun S => by rw [h, List.take_length]
theorem isb_out {i m : Int} (h : ¬ (0 ≤ i ∧ i ≤ m)) : callG 3 g_is_between [] [.val (.int i), .val (.int 0), .val (.int m)] S = .ok (.val (.bl false)) S := by
  rw [isb_int]
  by_cases h1 : 0 ≤ i
  · rw [decide_eq_false (p := i ≤ m) (fun h2 => h ⟨h1, h2⟩), Bool.and_false]
  · rw [decide_eq_false h1, Bool.false_and]
theorem far_ok (hl : w.length ≤ 5) (h1 : 0 < w.length) : ∀ d ∈ fars w, Far w d := by
  intro d hd
  simp only [fars, List.mem_cons, List.not_mem_nil, or_false] at hd
  rcases hd with rfl | rfl | rfl | rfl | rfl | rfl | rfl
  · exact ⟨fun m S _ => isb_out (by omega), "-1", fun S => by kernel_rfl, fun S S2 => by kernel_rfl, fun S => by kernel_rfl⟩
  · refine ⟨fun m S hm => isb_out (by omega), ?_⟩
    generalize w.length = k at *
    have : k = 1 ∨ k = 2 ∨ k = 3 ∨ k = 4 ∨ k = 5 := by omega
    rcases this with rfl | rfl | rfl | rfl | rfl
    · exact ⟨"1", fun S => by kernel_rfl, fun S S2 => by kernel_rfl, fun S => by kernel_rfl⟩
    · exact ⟨"2", fun S => by kernel_rfl, fun S S2 => by kernel_rfl, fun S => by kernel_rfl⟩
    · exact ⟨"3", fun S => by kernel_rfl, fun S S2 => by kernel_rfl, fun S => by kernel_rfl⟩
    · exact ⟨"4", fun S => by kernel_rfl, fun S S2 => by kernel_rfl, fun S => by kernel_rfl⟩
    · exact ⟨"5", fun S => by kernel_rfl, fun S S2 => by kernel_rfl, fun S => by kernel_rfl⟩
  · exact ⟨fun m S _ => isb_non (nonI_of fun S => by kernel_rfl), "None", fun S => by kernel_rfl, fun S S2 => by kernel_rfl, fun S => by kernel_rfl⟩
  · exact ⟨fun m S _ => isb_non (nonI_of fun S => by kernel_rfl), "True", fun S => by kernel_rfl, fun S S2 => by kernel_rfl, fun S => by kernel_rfl⟩
  · exact ⟨fun m S _ => isb_non (nonI_of fun S => by kernel_rfl), "'0'", fun S => by kernel_rfl, fun S S2 => by kernel_rfl, fun S => by kernel_rfl⟩
  · exact ⟨fun m S _ => isb_non (nonI_of fun S => by kernel_rfl), "(0,)", fun S => by kernel_rfl, fun S S2 => by kernel_rfl, fun S => by kernel_rfl⟩
  · exact ⟨fun m S hm => isb_out (by omega), "100000000000000000000", fun S => by kernel_rfl, fun S S2 => by kernel_rfl, fun S => by kernel_rfl⟩
theorem r_5 {a2 a3 a4 : Option A} (hr : Row w) (hne : w ≠ []) (ho : Far w d) : e__law_refused_right_5 (eR w a2 a3 a4 (some (.val d)) none) S = .ok (.nx (eR w a2 a3 a4 (some (.val d)) none)) S := by
  have hl := hr.le5
  obtain ⟨t, t1, t2, t3⟩ := ho.t
  have e1 : eLam 4 e__law_heard (eOp (hTbL tb_getitem_1 hOwnIx hIx) (eApp (callG 1 g__law_made []) (eCons (eVar 1) (eNil))) (eVar 5)) (eR w a2 a3 a4 (some (.val d)) none) S = .ok (.val (.tup [.str "count", .str t])) S := by
    refine heard_exc (S2 := S) ?_ (List.take_length ..) t2
    simp -implicitDefEqProofs only [z_bind_ok, z_bindS_ok, z_C, z_var, z_kVar, z_op, z_kOp, z_un, z_nil, z_cons, z_kCons, z_kCons2, z_app, z_bool, z_kBool, z_and, z_kAnd_t, z_kAnd_f, z_or, z_kOr_t, z_kOr_f, z_not, z_kNot, z_andE, z_kAndE_t, z_kAndE_f, z_orE, z_kOrE_t, z_kOrE_f, z_ifE, z_kIfE_t, z_kIfE_f, z_frz, z_frz_v, z_seq, z_seq_nx, z_seq_rt, z_seq_bk, z_seq_ct, z_drop, z_kDrop, z_ret, z_kRet, z_retN, z_set, z_kSet, z_if, z_kIf_t, z_kIf_f, z_par, z_kPar, z_asg, z_kAsg, z_kAsg2, z_next, z_break, z_cont, z_gSet, z_for_nil, z_for_cons, z_kFor, z_kFor_nx, z_kFor_ct, z_kFor_bk, z_kFor_rt, z_forI, z_kForI, List.getElem?_cons_zero, List.getElem?_cons_succ, List.set_cons_zero, List.set_cons_succ, made_ok hr hne hl, d_get, m_getBad ho.b]
  unfold e__law_refused_right_5
  simp -implicitDefEqProofs only [z_bind_ok, z_bindS_ok, z_C, z_var, z_kVar, z_op, z_kOp, z_un, z_nil, z_cons, z_kCons, z_kCons2, z_app, z_bool, z_kBool, z_and, z_kAnd_t, z_kAnd_f, z_or, z_kOr_t, z_kOr_f, z_not, z_kNot, z_andE, z_kAndE_t, z_kAndE_f, z_orE, z_kOrE_t, z_kOrE_f, z_ifE, z_kIfE_t, z_kIfE_f, z_frz, z_frz_v, z_seq, z_seq_nx, z_seq_rt, z_seq_bk, z_seq_ct, z_drop, z_kDrop, z_ret, z_kRet, z_retN, z_set, z_kSet, z_if, z_kIf_t, z_kIf_f, z_par, z_kPar, z_asg, z_kAsg, z_kAsg2, z_next, z_break, z_cont, z_gSet, z_for_nil, z_for_cons, z_kFor, z_kFor_nx, z_kFor_ct, z_kFor_bk, z_kFor_rt, z_forI, z_kForI, List.getElem?_cons_zero, List.getElem?_cons_succ, List.set_cons_zero, List.set_cons_succ, e1, t1, tup2, t3]
theorem r_6 {k : Nat} {a2 a5 : Option A} {e : D} (hr : Row w) (hk : k < w.length) (ho : OddT (w.take k) e) : e__law_refused_right_6 (eR w a2 (some (.val (.int k))) (some (.val (.lst (spo w k e)))) a5 none) S = .ok (.nx (eR w a2 (some (.val (.int k))) (some (.val (.lst (spo w k e)))) a5 (some (.val (.tup [.str "text", .int 0, .int k]))))) S := by
  have hl := hr.le5
  obtain ⟨t, t1, t2, t3, t4⟩ := ho.t
  have hs : iSeqT tbi_1 (eVar 4) (eR w a2 (some (.val (.int k))) (some (.val (.lst (spo w k e)))) a5 none) S = .ok (spo w k e) S := by
    unfold iSeqT
    simp -implicitDefEqProofs only [z_bind_ok, z_bindS_ok, z_C, z_var, z_kVar, z_op, z_kOp, z_un, z_nil, z_cons, z_kCons, z_kCons2, z_app, z_bool, z_kBool, z_and, z_kAnd_t, z_kAnd_f, z_or, z_kOr_t, z_kOr_f, z_not, z_kNot, z_andE, z_kAndE_t, z_kAndE_f, z_orE, z_kOrE_t, z_kOrE_f, z_ifE, z_kIfE_t, z_kIfE_f, z_frz, z_frz_v, z_seq, z_seq_nx, z_seq_rt, z_seq_bk, z_seq_ct, z_drop, z_kDrop, z_ret, z_kRet, z_retN, z_set, z_kSet, z_if, z_kIf_t, z_kIf_f, z_par, z_kPar, z_asg, z_kAsg, z_kAsg2, z_next, z_break, z_cont, z_gSet, z_for_nil, z_for_cons, z_kFor, z_kFor_nx, z_kFor_ct, z_kFor_bk, z_kFor_rt, z_forI, z_kForI, List.getElem?_cons_zero, List.getElem?_cons_succ, List.set_cons_zero, List.set_cons_succ]
    rfl
  have hrow : ∀ x, x ∈ w.take k ∨ x ∈ w.drop (k + 1) → x ∈ W5 := fun x hx => by
    rcases hx with h | h
    · exact hr.w5 x (List.mem_of_mem_take h)
    · exact hr.w5 x (List.mem_of_mem_drop h)
  have hsp : Spl (w.take k ++ t :: w.drop (k + 1)) := ⟨fits (fun x hx => by
      rcases List.mem_append.mp hx with h | h
      · exact w5_len x (hrow x (.inl h))
      · rcases List.mem_cons.mp h with rfl | h
        · exact t3
        · exact w5_len x (hrow x (.inr h))) (by simp; omega), by simp, fun x hx => by
      rcases List.mem_append.mp hx with h | h
      · exact w5_sp x (hrow x (.inl h))
      · rcases List.mem_cons.mp h with rfl | h
        · exact t2
        · exact w5_sp x (hrow x (.inr h))⟩
  have hc : eLc [7] (iSeqT tbi_1 (eVar 4)) (gSet 7) (tYesE) (eApp (hTbC tb_str_1 hOwnStr hStrC) (eCons (eVar 7) (eNil))) (eR w a2 (some (.val (.int k))) (some (.val (.lst (spo w k e)))) a5 none) S = .ok (tl (w.take k ++ t :: w.drop (k + 1))) S := by
    have key : ∀ f : D → D, (∀ d ∈ spo w k e, ∀ S1 : Store, hTbC tb_str_1 hOwnStr hStrC [.val d] S1 = .ok (.val (f d)) S1) → eLc [7] (iSeqT tbi_1 (eVar 4)) (gSet 7) (tYesE) (eApp (hTbC tb_str_1 hOwnStr hStrC) (eCons (eVar 7) (eNil))) (eR w a2 (some (.val (.int k))) (some (.val (.lst (spo w k e)))) a5 none) S = .ok (.val (.lst ((spo w k e).map f))) S := fun f hf => by
      rw [lc_ok (p := fun _ => true) (f := f) hs (by rw [spo_len hk]; omega) fun d hd S1 => ⟨[some (.loc 0), some (tl w), a2, some (.val (.int k)), some (.val (.lst (spo w k e))), a5, none, some (.val d)], rfl, rfl, fun _ => by
        simp -implicitDefEqProofs only [z_bind_ok, z_bindS_ok, z_C, z_var, z_kVar, z_op, z_kOp, z_un, z_nil, z_cons, z_kCons, z_kCons2, z_app, z_bool, z_kBool, z_and, z_kAnd_t, z_kAnd_f, z_or, z_kOr_t, z_kOr_f, z_not, z_kNot, z_andE, z_kAndE_t, z_kAndE_f, z_orE, z_kOrE_t, z_kOrE_f, z_ifE, z_kIfE_t, z_kIfE_f, z_frz, z_frz_v, z_seq, z_seq_nx, z_seq_rt, z_seq_bk, z_seq_ct, z_drop, z_kDrop, z_ret, z_kRet, z_retN, z_set, z_kSet, z_if, z_kIf_t, z_kIf_f, z_par, z_kPar, z_asg, z_kAsg, z_kAsg2, z_next, z_break, z_cont, z_gSet, z_for_nil, z_for_cons, z_kFor, z_kFor_nx, z_kFor_ct, z_kFor_bk, z_kFor_rt, z_forI, z_kForI, List.getElem?_cons_zero, List.getElem?_cons_succ, List.set_cons_zero, List.set_cons_succ, hf d hd S1]
        ⟩]
      rw [List.filter_eq_self.mpr (fun _ _ => rfl)]
    rw [key (fun d => match hTbC tb_str_1 hOwnStr hStrC [.val d] ([] : Store) with | .ok (.val z) _ => z | _ => d) fun d hd S1 => ?_]
    · have hw : ∀ l : List Str, (ts l).map (fun d => match hTbC tb_str_1 hOwnStr hStrC [.val d] ([] : Store) with | .ok (.val z) _ => z | _ => d) = ts l := fun l => by
        induction l with
        | nil => rfl
        | cons y l ih =>
          show _ :: _ = _ :: _
          rw [ih]
          rfl
      rw [spo, List.map_append, List.map_cons, hw, hw, t1 []]
      simp
    · unfold spo at hd
      rcases List.mem_append.mp hd with h | h
      · obtain ⟨y, _, rfl⟩ := List.mem_map.mp h
        rfl
      · rcases List.mem_cons.mp h with rfl | h
        · rw [t1 S1, t1 []]
        · obtain ⟨y, _, rfl⟩ := List.mem_map.mp h
          rfl
  have hj : eBm "str" kJoin (eC (.str " ")) (eCons (eLc [7] (iSeqT tbi_1 (eVar 4)) (gSet 7) (tYesE) (eApp (hTbC tb_str_1 hOwnStr hStrC) (eCons (eVar 7) (eNil)))) (eNil)) (eR w a2 (some (.val (.int k))) (some (.val (.lst (spo w k e)))) a5 none) S = .ok (.val (.str (Txt.join " " (w.take k ++ t :: w.drop (k + 1))))) S := by
    unfold eBm
    simp -implicitDefEqProofs only [z_bind_ok, z_bindS_ok, z_C, z_var, z_kVar, z_op, z_kOp, z_un, z_nil, z_cons, z_kCons, z_kCons2, z_app, z_bool, z_kBool, z_and, z_kAnd_t, z_kAnd_f, z_or, z_kOr_t, z_kOr_f, z_not, z_kNot, z_andE, z_kAndE_t, z_kAndE_f, z_orE, z_kOrE_t, z_kOrE_f, z_ifE, z_kIfE_t, z_kIfE_f, z_frz, z_frz_v, z_seq, z_seq_nx, z_seq_rt, z_seq_bk, z_seq_ct, z_drop, z_kDrop, z_ret, z_kRet, z_retN, z_set, z_kSet, z_if, z_kIf_t, z_kIf_f, z_par, z_kPar, z_asg, z_kAsg, z_kAsg2, z_next, z_break, z_cont, z_gSet, z_for_nil, z_for_cons, z_kFor, z_kFor_nx, z_kFor_ct, z_kFor_bk, z_kFor_rt, z_forI, z_kForI, List.getElem?_cons_zero, List.getElem?_cons_succ, List.set_cons_zero, List.set_cons_succ]
    unfold kBm
    rw [if_pos (show bty S (.val (.str " ")) = some "str" from rfl)]
    simp -implicitDefEqProofs only [z_bind_ok, z_bindS_ok, z_C, z_var, z_kVar, z_op, z_kOp, z_un, z_nil, z_cons, z_kCons, z_kCons2, z_app, z_bool, z_kBool, z_and, z_kAnd_t, z_kAnd_f, z_or, z_kOr_t, z_kOr_f, z_not, z_kNot, z_andE, z_kAndE_t, z_kAndE_f, z_orE, z_kOrE_t, z_kOrE_f, z_ifE, z_kIfE_t, z_kIfE_f, z_frz, z_frz_v, z_seq, z_seq_nx, z_seq_rt, z_seq_bk, z_seq_ct, z_drop, z_kDrop, z_ret, z_kRet, z_retN, z_set, z_kSet, z_if, z_kIf_t, z_kIf_f, z_par, z_kPar, z_asg, z_kAsg, z_kAsg2, z_next, z_break, z_cont, z_gSet, z_for_nil, z_for_cons, z_kFor, z_kFor_nx, z_kFor_ct, z_kFor_bk, z_kFor_rt, z_forI, z_kForI, List.getElem?_cons_zero, List.getElem?_cons_succ, List.set_cons_zero, List.set_cons_succ, hc, kJoin_l hsp.f]
  have hb := read_bad (S := S) (v := w.take k ++ t :: w.drop (k + 1)) rfl hsp (hr.take k) t4
  rw [List.length_take, Nat.min_eq_left (by omega)] at hb
  have hcm : ∀ a : A, kCm 11 (callG 2 g_Order_read []) [a] S = g_Order_read [.val (.cls 11), a] S := fun a => rfl
  have e1 : eLam 4 e__law_heard (eApp (kCm 11 (callG 2 g_Order_read [])) (eCons (eBm "str" kJoin (eC (.str " ")) (eCons (eLc [7] (iSeqT tbi_1 (eVar 4)) (gSet 7) (tYesE) (eApp (hTbC tb_str_1 hOwnStr hStrC) (eCons (eVar 7) (eNil)))) (eNil))) (eNil))) (eR w a2 (some (.val (.int k))) (some (.val (.lst (spo w k e)))) a5 none) S = .ok (.val (.tup [.str "text", .int 0, .int k])) S := by
    refine heard_exc (c := 8) (ns := ["line", "word"]) (vs := [.int 0, .int k]) (S2 := S) ?_ (List.take_length ..) fun S S2 => by kernel_rfl
    simp -implicitDefEqProofs only [z_bind_ok, z_bindS_ok, z_C, z_var, z_kVar, z_op, z_kOp, z_un, z_nil, z_cons, z_kCons, z_kCons2, z_app, z_bool, z_kBool, z_and, z_kAnd_t, z_kAnd_f, z_or, z_kOr_t, z_kOr_f, z_not, z_kNot, z_andE, z_kAndE_t, z_kAndE_f, z_orE, z_kOrE_t, z_kOrE_f, z_ifE, z_kIfE_t, z_kIfE_f, z_frz, z_frz_v, z_seq, z_seq_nx, z_seq_rt, z_seq_bk, z_seq_ct, z_drop, z_kDrop, z_ret, z_kRet, z_retN, z_set, z_kSet, z_if, z_kIf_t, z_kIf_f, z_par, z_kPar, z_asg, z_kAsg, z_kAsg2, z_next, z_break, z_cont, z_gSet, z_for_nil, z_for_cons, z_kFor, z_kFor_nx, z_kFor_ct, z_kFor_bk, z_kFor_rt, z_forI, z_kForI, List.getElem?_cons_zero, List.getElem?_cons_succ, List.set_cons_zero, List.set_cons_succ, hj, hcm, hb]
  unfold e__law_refused_right_6
  simp -implicitDefEqProofs only [z_bind_ok, z_bindS_ok, z_C, z_var, z_kVar, z_op, z_kOp, z_un, z_nil, z_cons, z_kCons, z_kCons2, z_app, z_bool, z_kBool, z_and, z_kAnd_t, z_kAnd_f, z_or, z_kOr_t, z_kOr_f, z_not, z_kNot, z_andE, z_kAndE_t, z_kAndE_f, z_orE, z_kOrE_t, z_kOrE_f, z_ifE, z_kIfE_t, z_kIfE_f, z_frz, z_frz_v, z_seq, z_seq_nx, z_seq_rt, z_seq_bk, z_seq_ct, z_drop, z_kDrop, z_ret, z_kRet, z_retN, z_set, z_kSet, z_if, z_kIf_t, z_kIf_f, z_par, z_kPar, z_asg, z_kAsg, z_kAsg2, z_next, z_break, z_cont, z_gSet, z_for_nil, z_for_cons, z_kFor, z_kFor_nx, z_kFor_ct, z_kFor_bk, z_kFor_rt, z_forI, z_kForI, List.getElem?_cons_zero, List.getElem?_cons_succ, List.set_cons_zero, List.set_cons_succ, e1]
theorem r_7 {k : Nat} {a2 a4 a5 : Option A} (hk : k < 5) : e__law_refused_right_7 (eR w a2 (some (.val (.int k))) a4 a5 (some (.val (.tup [.str "text", .int 0, .int k])))) S = .ok (.rt (.val (.bl true))) S := by
  have e : hTbL tb_eq_1 (hOwnCmp ct) hEq (.val (.tup [.str "text", .int 0, .int k])) (.val (.tup [.str "text", .int 0, .int k])) S = .ok (.val (.bl true)) S := by
    rcases k_cases hk with rfl | rfl | rfl | rfl | rfl <;> kernel_rfl
  unfold e__law_refused_right_7
  simp -implicitDefEqProofs only [z_bind_ok, z_bindS_ok, z_C, z_var, z_kVar, z_op, z_kOp, z_un, z_nil, z_cons, z_kCons, z_kCons2, z_app, z_bool, z_kBool, z_and, z_kAnd_t, z_kAnd_f, z_or, z_kOr_t, z_kOr_f, z_not, z_kNot, z_andE, z_kAndE_t, z_kAndE_f, z_orE, z_kOrE_t, z_kOrE_f, z_ifE, z_kIfE_t, z_kIfE_f, z_frz, z_frz_v, z_seq, z_seq_nx, z_seq_rt, z_seq_bk, z_seq_ct, z_drop, z_kDrop, z_ret, z_kRet, z_retN, z_set, z_kSet, z_if, z_kIf_t, z_kIf_f, z_par, z_kPar, z_asg, z_kAsg, z_kAsg2, z_next, z_break, z_cont, z_gSet, z_for_nil, z_for_cons, z_kFor, z_kFor_nx, z_kFor_ct, z_kFor_bk, z_kFor_rt, z_forI, z_kForI, List.getElem?_cons_zero, List.getElem?_cons_succ, List.set_cons_zero, List.set_cons_succ, tup3, e]
theorem refused_ok (h : Pn n p) (hn : n ≤ 50000) (hr : Row w) (hne : w ≠ []) : ∃ p', Pn (n + 4) p' ∧ callG 2 g__law_refused_right [] [.loc 0, tl w] [p] = .ok (.val (.bl true)) [p'] := by
  have hl := hr.le5
  have hp := List.length_pos_iff.mpr hne
  obtain ⟨p1, d, h1, hd, e1⟩ := pick_st (T := [none]) (ds := odd9b) h (by omega) (by simp [odd9b]) (by simp [odd9b])
  obtain ⟨p2, i, h2, hi0, hi1, e2⟩ := draw_st (T := [none]) (m := (w.length : Int)) h1 (by omega) (by omega) (by omega)
  obtain ⟨k, rfl⟩ : ∃ k : Nat, i = (k : Int) := ⟨i.toNat, by omega⟩
  have hk : k < w.length := by omega
  obtain ⟨p3, e, h3, ho, e3⟩ := r_1 (T := [none]) h2 (by omega) hr hk (fun pre => odd9b_ok d hd)
  obtain ⟨p4, f, h4, hf, e4⟩ := pick_st (T := [none]) (ds := fars w) h3 (by omega) (by simp [fars]) (by simp [fars])
  refine ⟨p4, by rw [show n + 4 = n + 1 + 1 + 1 + 1 from by omega]; exact h4, ?_⟩
  show defF 8 e__law_refused_right [_, _] [p] = _
  have es : startE 8 [.loc 0, tl w] = eR w none none none none none := rfl
  have et : ∀ S, hTup [.val (.str "block")] S = .ok (.val (.tup [.str "block"])) S := fun _ => rfl
  have el : ∀ S, hLst [.val .non, .val (.int 0), .val (.str ""), .val (.str "blocks"), .val (.str "journal"), .val (.tup [.str "block"]), .val (.bl true), .val (.lst []), .val (.dic [] [])] S = .ok (.val (.lst odd9b)) S := fun _ => rfl
  have ed : ∀ env, eDnewN env [p] = .ok (.loc 1) [p, some (.dic [] [])] := fun _ => rfl
  have ef : hFrz (.loc 1) [p, some (.dic [] [])] = .ok (.val (.dic [] [])) [p, none] := rfl
  have e0 : e__law_refused_right_0 (eR w none none none none none) [p] = .ok (.nx (eR w (some (.val d)) (some (.val (.int k))) none none none)) [p2, none] := by
    unfold e__law_refused_right_0
    simp -implicitDefEqProofs only [z_bind_ok, z_bindS_ok, z_C, z_var, z_kVar, z_op, z_kOp, z_un, z_nil, z_cons, z_kCons, z_kCons2, z_app, z_bool, z_kBool, z_and, z_kAnd_t, z_kAnd_f, z_or, z_kOr_t, z_kOr_f, z_not, z_kNot, z_andE, z_kAndE_t, z_kAndE_f, z_orE, z_kOrE_t, z_kOrE_f, z_ifE, z_kIfE_t, z_kIfE_f, z_frz, z_frz_v, z_seq, z_seq_nx, z_seq_rt, z_seq_bk, z_seq_ct, z_drop, z_kDrop, z_ret, z_kRet, z_retN, z_set, z_kSet, z_if, z_kIf_t, z_kIf_f, z_par, z_kPar, z_asg, z_kAsg, z_kAsg2, z_next, z_break, z_cont, z_gSet, z_for_nil, z_for_cons, z_kFor, z_kFor_nx, z_kFor_ct, z_kFor_bk, z_kFor_rt, z_forI, z_kForI, List.getElem?_cons_zero, List.getElem?_cons_succ, List.set_cons_zero, List.set_cons_succ, et, lst_nil, ed, ef, el, e1, d_lenL, List.length_map, e2]
  have en : ∀ S, hNeg (.val (.int 1)) S = .ok (.val (.int (-1))) S := fun _ => rfl
  have ep : ∀ S, hPow (.val (.int 10)) (.val (.int 20)) S = .ok (.val (.int (10 ^ 20))) S := fun S => by kernel_rfl
  have et0 : ∀ S, hTup [.val (.int 0)] S = .ok (.val (.tup [.int 0])) S := fun _ => rfl
  have el4 : ∀ S, hLst [.val (.int (-1)), .val (.int w.length), .val .non, .val (.bl true), .val (.str "0"), .val (.tup [.int 0]), .val (.int (10 ^ 20))] S = .ok (.val (.lst (fars w))) S := fun _ => rfl
  have e4' : e__law_refused_right_4 (eR w (some (.val d)) (some (.val (.int k))) (some (.val (.lst (spo w k e)))) none none) [p3, none] = .ok (.nx (eR w (some (.val d)) (some (.val (.int k))) (some (.val (.lst (spo w k e)))) (some (.val f)) none)) [p4, none] := by
    unfold e__law_refused_right_4
    simp -implicitDefEqProofs only [z_bind_ok, z_bindS_ok, z_C, z_var, z_kVar, z_op, z_kOp, z_un, z_nil, z_cons, z_kCons, z_kCons2, z_app, z_bool, z_kBool, z_and, z_kAnd_t, z_kAnd_f, z_or, z_kOr_t, z_kOr_f, z_not, z_kNot, z_andE, z_kAndE_t, z_kAndE_f, z_orE, z_kOrE_t, z_kOrE_f, z_ifE, z_kIfE_t, z_kIfE_f, z_frz, z_frz_v, z_seq, z_seq_nx, z_seq_rt, z_seq_bk, z_seq_ct, z_drop, z_kDrop, z_ret, z_kRet, z_retN, z_set, z_kSet, z_if, z_kIf_t, z_kIf_f, z_par, z_kPar, z_asg, z_kAsg, z_kAsg2, z_next, z_break, z_cont, z_gSet, z_for_nil, z_for_cons, z_kFor, z_kFor_nx, z_kFor_ct, z_kFor_bk, z_kFor_rt, z_forI, z_kForI, List.getElem?_cons_zero, List.getElem?_cons_succ, List.set_cons_zero, List.set_cons_succ, en, d_lenL, List.length_map, et0, ep, el4, e4]
  rw [z_def, es]
  unfold e__law_refused_right
  rw [z_seq, e0, z_seq_nx, z_seq, e3, z_seq_nx, z_seq, r_2 hr hk ho, z_seq_nx, z_seq, r_3, z_seq_nx, z_seq, e4', z_seq_nx, z_seq, r_5 hr hne (far_ok hl hp f hf), z_seq_nx, z_seq, r_6 hr hk ho, z_seq_nx, r_7 (by omega), z_kDef_v]
  rfl
end
end Lw


namespace Lw
open PySem L2 R
section
variable {S T : Store} {x y z : Str} {d : D} {w v pre : List Str} {n : Int} {p : Option Con} {env : R.Env}
abbrev eT (w : List Str) (a2 a3 a4 a5 : Option A) : R.Env := [some (.loc 0), some (tl w), a2, a3, a4, a5]
def bents : List Str := ["", "none", "Block"]
theorem bents_ok : ∀ z ∈ bents, (PyData.strOk z = true ∧ z ∉ W5) ∧ 32 ∉ TL.tl z ∧ z.length ≤ 20 := by decide +kernel
theorem cm_read {a : A} : kCm 11 (callG 2 g_Order_read []) [a] S = g_Order_read [.val (.cls 11), a] S := rfl
theorem join_e {i : Nat} {env : R.Env} (h : env[i]? = some (some (tl v))) (hf : (v.map (·.length)).sum + v.length * (" " : Str).length ≤ 100000) : eBm "str" kJoin (eC (.str " ")) (eCons (eVar i) eNil) env S = .ok (.val (.str (Txt.join " " v))) S := by
  unfold eBm
  simp -implicitDefEqProofs only [z_bind_ok, z_bindS_ok, z_C, z_var, z_kVar, z_op, z_kOp, z_un, z_nil, z_cons, z_kCons, z_kCons2, z_app, z_bool, z_kBool, z_and, z_kAnd_t, z_kAnd_f, z_or, z_kOr_t, z_kOr_f, z_not, z_kNot, z_andE, z_kAndE_t, z_kAndE_f, z_orE, z_kOrE_t, z_kOrE_f, z_ifE, z_kIfE_t, z_kIfE_f, z_frz, z_frz_v, z_seq, z_seq_nx, z_seq_rt, z_seq_bk, z_seq_ct, z_drop, z_kDrop, z_ret, z_kRet, z_retN, z_set, z_kSet, z_if, z_kIf_t, z_kIf_f, z_par, z_kPar, z_asg, z_kAsg, z_kAsg2, z_next, z_break, z_cont, z_gSet, z_for_nil, z_for_cons, z_kFor, z_kFor_nx, z_kFor_ct, z_kFor_bk, z_kFor_rt, z_forI, z_kForI, List.getElem?_cons_zero, List.getElem?_cons_succ, List.set_cons_zero, List.set_cons_succ]
  unfold kBm
  rw [if_pos (show bty S (.val (.str " ")) = some "str" from rfl)]
  simp -implicitDefEqProofs only [z_bind_ok, z_bindS_ok, z_C, z_var, z_kVar, z_op, z_kOp, z_un, z_nil, z_cons, z_kCons, z_kCons2, z_app, z_bool, z_kBool, z_and, z_kAnd_t, z_kAnd_f, z_or, z_kOr_t, z_kOr_f, z_not, z_kNot, z_andE, z_kAndE_t, z_kAndE_f, z_orE, z_kOrE_t, z_kOrE_f, z_ifE, z_kIfE_t, z_kIfE_f, z_frz, z_frz_v, z_seq, z_seq_nx, z_seq_rt, z_seq_bk, z_seq_ct, z_drop, z_kDrop, z_ret, z_kRet, z_retN, z_set, z_kSet, z_if, z_kIf_t, z_kIf_f, z_par, z_kPar, z_asg, z_kAsg, z_kAsg2, z_next, z_break, z_cont, z_gSet, z_for_nil, z_for_cons, z_kFor, z_kFor_nx, z_kFor_ct, z_kFor_bk, z_kFor_rt, z_forI, z_kForI, List.getElem?_cons_zero, List.getElem?_cons_succ, List.set_cons_zero, List.set_cons_succ, h, kJoin_l hf]
theorem ne_false (hr : Row w) : hTbL tb_eq_1 (hOwnNe ct) hNe (od w) (od w) S = .ok (.val (.bl false)) S := by
  rw [d_ne hr.tx hr.tx, decide_eq_true rfl]
  rfl
theorem t_1 {a3 : Option A} (hr : Row w) (hne : w ≠ []) : e__law_texts_right_1 (eT w (some (od w)) a3 none none) S = .ok (.nx (eT w (some (od w)) a3 none none)) S := by
  have hl := hr.le5
  have hk : (if [A.val (.str (Txt.join " " w))].length = (["text"] : List Str).length then kCm 11 (kwG 1 [0] 2 g_Order_read) [.val (.str (Txt.join " " w))] S else .bad) = g_Order_read [.val (.cls 11), .val (.str (Txt.join " " w))] S := by
    kernel_rfl
  have hj := join_e (S := S) (i := 1) (env := eT w (some (od w)) a3 none none) (v := w) rfl hr.fit
  unfold e__law_texts_right_1
  simp -implicitDefEqProofs only [z_bind_ok, z_bindS_ok, z_C, z_var, z_kVar, z_op, z_kOp, z_un, z_nil, z_cons, z_kCons, z_kCons2, z_app, z_bool, z_kBool, z_and, z_kAnd_t, z_kAnd_f, z_or, z_kOr_t, z_kOr_f, z_not, z_kNot, z_andE, z_kAndE_t, z_kAndE_f, z_orE, z_kOrE_t, z_kOrE_f, z_ifE, z_kIfE_t, z_kIfE_f, z_frz, z_frz_v, z_seq, z_seq_nx, z_seq_rt, z_seq_bk, z_seq_ct, z_drop, z_kDrop, z_ret, z_kRet, z_retN, z_set, z_kSet, z_if, z_kIf_t, z_kIf_f, z_par, z_kPar, z_asg, z_kAsg, z_kAsg2, z_next, z_break, z_cont, z_gSet, z_for_nil, z_for_cons, z_kFor, z_kFor_nx, z_kFor_ct, z_kFor_bk, z_kFor_rt, z_forI, z_kForI, List.getElem?_cons_zero, List.getElem?_cons_succ, List.set_cons_zero, List.set_cons_succ, d_str hr.fit, cm_read, read_ok hr (by omega : w.length ≤ 100) (hr.spl hne), ne_false hr, hj, hk]
theorem t_2 (hr : Row w) (hne : w ≠ []) (hb : BadAt w (.str z)) (h1 : 32 ∉ TL.tl z) (h2 : z.length ≤ 20) : e__law_texts_right_2 (eT w (some (od w)) (some (tl (w ++ [z]))) none none) S = .ok (.nx (eT w (some (od w)) (some (tl (w ++ [z]))) none none)) S := by
  have hl := hr.le5
  have hsp : Spl (w ++ [z]) := ⟨fits (fun x hx => by
      rcases List.mem_append.mp hx with h | h
      · exact w5_len x (hr.w5 x h)
      · rw [List.mem_singleton.mp h]
        exact h2) (by simp; omega), by simp, fun x hx => by
      rcases List.mem_append.mp hx with h | h
      · exact w5_sp x (hr.w5 x h)
      · rw [List.mem_singleton.mp h]
        exact h1⟩
  have hj := join_e (S := S) (i := 3) (env := eT w (some (od w)) (some (tl (w ++ [z]))) none none) (v := w ++ [z]) rfl hsp.f
  have e1 : eLam 4 e__law_heard (eApp (kCm 11 (callG 2 g_Order_read [])) (eCons (eBm "str" kJoin (eC (.str " ")) (eCons (eVar 3) (eNil))) (eNil))) (eT w (some (od w)) (some (tl (w ++ [z]))) none none) S = .ok (.val (.tup [.str "text", .int 0, .int w.length])) S := by
    refine heard_exc (c := 8) (ns := ["line", "word"]) (vs := [.int 0, .int w.length]) (S2 := S) ?_ (List.take_length ..) fun S S2 => by kernel_rfl
    simp -implicitDefEqProofs only [z_bind_ok, z_bindS_ok, z_C, z_var, z_kVar, z_op, z_kOp, z_un, z_nil, z_cons, z_kCons, z_kCons2, z_app, z_bool, z_kBool, z_and, z_kAnd_t, z_kAnd_f, z_or, z_kOr_t, z_kOr_f, z_not, z_kNot, z_andE, z_kAndE_t, z_kAndE_f, z_orE, z_kOrE_t, z_kOrE_f, z_ifE, z_kIfE_t, z_kIfE_f, z_frz, z_frz_v, z_seq, z_seq_nx, z_seq_rt, z_seq_bk, z_seq_ct, z_drop, z_kDrop, z_ret, z_kRet, z_retN, z_set, z_kSet, z_if, z_kIf_t, z_kIf_f, z_par, z_kPar, z_asg, z_kAsg, z_kAsg2, z_next, z_break, z_cont, z_gSet, z_for_nil, z_for_cons, z_kFor, z_kFor_nx, z_kFor_ct, z_kFor_bk, z_kFor_rt, z_forI, z_kForI, List.getElem?_cons_zero, List.getElem?_cons_succ, List.set_cons_zero, List.set_cons_succ, hj, cm_read, read_bad (S := S) (v := w ++ [z]) (post := []) rfl hsp hr hb]
  have e2 : ∀ S, hTbL tb_eq_1 (hOwnNe ct) hNe (.val (.tup [.str "text", .int 0, .int w.length])) (.val (.tup [.str "text", .int 0, .int w.length])) S = .ok (.val (.bl false)) S := fun S => by
    generalize w.length = k at *
    have : k = 0 ∨ k = 1 ∨ k = 2 ∨ k = 3 ∨ k = 4 ∨ k = 5 := by omega
    rcases this with rfl | rfl | rfl | rfl | rfl | rfl <;> kernel_rfl
  unfold e__law_texts_right_2
  simp -implicitDefEqProofs only [z_bind_ok, z_bindS_ok, z_C, z_var, z_kVar, z_op, z_kOp, z_un, z_nil, z_cons, z_kCons, z_kCons2, z_app, z_bool, z_kBool, z_and, z_kAnd_t, z_kAnd_f, z_or, z_kOr_t, z_kOr_f, z_not, z_kNot, z_andE, z_kAndE_t, z_kAndE_f, z_orE, z_kOrE_t, z_kOrE_f, z_ifE, z_kIfE_t, z_kIfE_f, z_frz, z_frz_v, z_seq, z_seq_nx, z_seq_rt, z_seq_bk, z_seq_ct, z_drop, z_kDrop, z_ret, z_kRet, z_retN, z_set, z_kSet, z_if, z_kIf_t, z_kIf_f, z_par, z_kPar, z_asg, z_kAsg, z_kAsg2, z_next, z_break, z_cont, z_gSet, z_for_nil, z_for_cons, z_kFor, z_kFor_nx, z_kFor_ct, z_kFor_bk, z_kFor_rt, z_forI, z_kForI, List.getElem?_cons_zero, List.getElem?_cons_succ, List.set_cons_zero, List.set_cons_succ, e1, d_lenL, List.length_map, tup3, e2]
theorem rev_l : hRev (tl w) S = .ok (tl w.reverse) S := by
  show Out.ok (A.val (.lst (ts w).reverse)) S = _
  simp [ts]
theorem t_5 {a3 : Option A} (hr : Row w) (ho : NonS d) : e__law_texts_right_5 (eT w (some (od w)) a3 (some (.val d)) (some (od w.reverse))) S = .ok (.nx (eT w (some (od w)) a3 (some (.val d)) (some (od w.reverse)))) S := by
  have e1 : eLam 4 e__law_heard (eApp (kCm 11 (callG 2 g_Order_read [])) (eCons (eVar 4) (eNil))) (eT w (some (od w)) a3 (some (.val d)) (some (od w.reverse))) S = .ok (.val (.tup [.str "text", .int 0, .int 0])) S := by
    refine heard_exc (c := 8) (ns := ["line", "word"]) (vs := [.int 0, .int 0]) (S2 := S) ?_ (List.take_length ..) fun S S2 => by kernel_rfl
    simp -implicitDefEqProofs only [z_bind_ok, z_bindS_ok, z_C, z_var, z_kVar, z_op, z_kOp, z_un, z_nil, z_cons, z_kCons, z_kCons2, z_app, z_bool, z_kBool, z_and, z_kAnd_t, z_kAnd_f, z_or, z_kOr_t, z_kOr_f, z_not, z_kNot, z_andE, z_kAndE_t, z_kAndE_f, z_orE, z_kOrE_t, z_kOrE_f, z_ifE, z_kIfE_t, z_kIfE_f, z_frz, z_frz_v, z_seq, z_seq_nx, z_seq_rt, z_seq_bk, z_seq_ct, z_drop, z_kDrop, z_ret, z_kRet, z_retN, z_set, z_kSet, z_if, z_kIf_t, z_kIf_f, z_par, z_kPar, z_asg, z_kAsg, z_kAsg2, z_next, z_break, z_cont, z_gSet, z_for_nil, z_for_cons, z_kFor, z_kFor_nx, z_kFor_ct, z_kFor_bk, z_kFor_rt, z_forI, z_kForI, List.getElem?_cons_zero, List.getElem?_cons_succ, List.set_cons_zero, List.set_cons_succ, cm_read, read_non ho]
  have e2 : ∀ S, hTbL tb_eq_1 (hOwnNe ct) hNe (.val (.tup [.str "text", .int 0, .int 0])) (.val (.tup [.str "text", .int 0, .int 0])) S = .ok (.val (.bl false)) S := fun S => by kernel_rfl
  have e3 : ∀ S, hTbL tb_eq_1 (hOwnCmp ct) hEq (tl w) (tl w.reverse) S = .ok (.val (.bl (decide (w = w.reverse)))) S := fun S => hEq_ll hr.tx hr.rev.tx
  have e4 : ∀ (b : Bool) S, hNe (.val (.bl b)) (.val (.bl b)) S = .ok (.val (.bl false)) S := fun b S => by
    rw [hNe_b]
    simp
  unfold e__law_texts_right_5
  simp -implicitDefEqProofs only [z_bind_ok, z_bindS_ok, z_C, z_var, z_kVar, z_op, z_kOp, z_un, z_nil, z_cons, z_kCons, z_kCons2, z_app, z_bool, z_kBool, z_and, z_kAnd_t, z_kAnd_f, z_or, z_kOr_t, z_kOr_f, z_not, z_kNot, z_andE, z_kAndE_t, z_kAndE_f, z_orE, z_kOrE_t, z_kOrE_f, z_ifE, z_kIfE_t, z_kIfE_f, z_frz, z_frz_v, z_seq, z_seq_nx, z_seq_rt, z_seq_bk, z_seq_ct, z_drop, z_kDrop, z_ret, z_kRet, z_retN, z_set, z_kSet, z_if, z_kIf_t, z_kIf_f, z_par, z_kPar, z_asg, z_kAsg, z_kAsg2, z_next, z_break, z_cont, z_gSet, z_for_nil, z_for_cons, z_kFor, z_kFor_nx, z_kFor_ct, z_kFor_bk, z_kFor_rt, z_forI, z_kForI, List.getElem?_cons_zero, List.getElem?_cons_succ, List.set_cons_zero, List.set_cons_succ, e1, tup3, e2, d_eq hr.tx hr.rev.tx, rev_l, e3, e4]
theorem t_6 {a3 a4 a5 : Option A} (hr : Row w) : e__law_texts_right_6 (eT w (some (od w)) a3 a4 a5) S = .ok (.rt (.val (.bl true))) (S ++ [none]) := by
  have e1 : ∀ S, hTuple [tl w] S = .ok (tt w) S := fun _ => rfl
  have e2 : ∀ S, hTuple [tl W5] S = .ok (tt W5) S := fun _ => rfl
  have e3 : ∀ S, hTbL tb_eq_1 (hOwnCmp ct) hEq (tt W5) (tt W5) S = .ok (.val (.bl true)) S := fun S => by kernel_rfl
  have e4 : eFrz (eApp (callG 0 g__law_all []) eNil) (eT w (some (od w)) a3 a4 a5) S = .ok (tl W5) (S ++ [none]) := all_frz
  have e5 : eApp hTuple (eCons (eFrz (eApp (callG 0 g__law_all []) eNil)) eNil) (eT w (some (od w)) a3 a4 a5) S = .ok (tt W5) (S ++ [none]) := by
    rw [z_app, z_cons, e4, z_bind_ok, z_kCons, z_nil, z_bind_ok, z_kCons2, z_bind_ok, e2]
  have e6 : eOp (hTbL tb_eq_1 (hOwnCmp ct) hEq) (eC (.tup ((["block", "page", "cell", "bucket", "parity"] : List Str).map D.str))) (eApp hTuple (eCons (eFrz (eApp (callG 0 g__law_all []) eNil)) (eNil))) (eT w (some (od w)) a3 a4 a5) S = .ok (.val (.bl true)) (S ++ [none]) := by
    rw [z_op, z_C, z_bind_ok, z_kOp, e5, z_bind_ok]
    exact e3 _
  unfold e__law_texts_right_6
  rw [z_ret, z_andE]
  have e7 : eOp (hTbL tb_eq_1 (hOwnNe ct) hNe) (eVar 2) (eApp hTuple (eCons (eVar 1) (eNil))) (eT w (some (od w)) a3 a4 a5) S = .ok (.val (.bl true)) S := by
    simp -implicitDefEqProofs only [z_bind_ok, z_bindS_ok, z_C, z_var, z_kVar, z_op, z_kOp, z_un, z_nil, z_cons, z_kCons, z_kCons2, z_app, z_bool, z_kBool, z_and, z_kAnd_t, z_kAnd_f, z_or, z_kOr_t, z_kOr_f, z_not, z_kNot, z_andE, z_kAndE_t, z_kAndE_f, z_orE, z_kOrE_t, z_kOrE_f, z_ifE, z_kIfE_t, z_kIfE_f, z_frz, z_frz_v, z_seq, z_seq_nx, z_seq_rt, z_seq_bk, z_seq_ct, z_drop, z_kDrop, z_ret, z_kRet, z_retN, z_set, z_kSet, z_if, z_kIf_t, z_kIf_f, z_par, z_kPar, z_asg, z_kAsg, z_kAsg2, z_next, z_break, z_cont, z_gSet, z_for_nil, z_for_cons, z_kFor, z_kFor_nx, z_kFor_ct, z_kFor_bk, z_kFor_rt, z_forI, z_kForI, List.getElem?_cons_zero, List.getElem?_cons_succ, List.set_cons_zero, List.set_cons_succ, e1, d_neT]
  have e8 : eOp (hTbL tb_eq_1 (hOwnNe ct) hNe) (eVar 2) (eApp (hTbC tb_str_1 hOwnStr hStrC) (eCons (eVar 2) (eNil))) (eT w (some (od w)) a3 a4 a5) S = .ok (.val (.bl true)) S := by
    simp -implicitDefEqProofs only [z_bind_ok, z_bindS_ok, z_C, z_var, z_kVar, z_op, z_kOp, z_un, z_nil, z_cons, z_kCons, z_kCons2, z_app, z_bool, z_kBool, z_and, z_kAnd_t, z_kAnd_f, z_or, z_kOr_t, z_kOr_f, z_not, z_kNot, z_andE, z_kAndE_t, z_kAndE_f, z_orE, z_kOrE_t, z_kOrE_f, z_ifE, z_kIfE_t, z_kIfE_f, z_frz, z_frz_v, z_seq, z_seq_nx, z_seq_rt, z_seq_bk, z_seq_ct, z_drop, z_kDrop, z_ret, z_kRet, z_retN, z_set, z_kSet, z_if, z_kIf_t, z_kIf_f, z_par, z_kPar, z_asg, z_kAsg, z_kAsg2, z_next, z_break, z_cont, z_gSet, z_for_nil, z_for_cons, z_kFor, z_kFor_nx, z_kFor_ct, z_kFor_bk, z_kFor_rt, z_forI, z_kForI, List.getElem?_cons_zero, List.getElem?_cons_succ, List.set_cons_zero, List.set_cons_succ, d_str hr.fit, d_neS]
  rw [e7, z_bind_ok, z_kAndE_t, z_andE, e8, z_bind_ok, z_kAndE_t, e6, z_bindS_ok, z_kRet]
def odd7 (w : List Str) : List D := [.non, .int 0, .bl true, .lst (ts w), .obj 11 ["words"] [.tup (ts w)], .dic [] [], .int (10 ^ 20)]
theorem odd7_ok : ∀ d ∈ odd7 w, NonS d := by
  intro d hd
  simp only [odd7, List.mem_cons, List.not_mem_nil, or_false] at hd
  rcases hd with rfl | rfl | rfl | rfl | rfl | rfl | rfl <;> exact fun S => by kernel_rfl
theorem texts_ok (h : Pn n p) (hn : n ≤ 50000) (hr : Row w) (hne : w ≠ []) : ∃ p', Pn (n + 2) p' ∧ callG 2 g__law_texts_right [] [.loc 0, tl w] [p] = .ok (.val (.bl true)) [p'] := by
  have hl := hr.le5
  obtain ⟨p1, dz, h1, hz0, e1⟩ := pick_st (T := []) (ds := ts w ++ ts bents) h (by omega) (by simp [bents]) (by simp [bents]; omega)
  have hz : ∃ z, dz = .str z ∧ BadAt w (.str z) ∧ 32 ∉ TL.tl z ∧ z.length ≤ 20 := by
    rcases List.mem_append.mp hz0 with h | h
    · obtain ⟨z, hz, rfl⟩ := List.mem_map.mp h
      exact ⟨z, rfl, .inr ⟨z, rfl, hr.tx z hz, .inr hz⟩, w5_sp z (hr.w5 z hz), w5_len z (hr.w5 z hz)⟩
    · obtain ⟨z, hz, rfl⟩ := List.mem_map.mp h
      obtain ⟨⟨a, b⟩, c, d⟩ := bents_ok z hz
      exact ⟨z, rfl, .inr ⟨z, rfl, a, .inl b⟩, c, d⟩
  obtain ⟨z, rfl, hb, hz1, hz2⟩ := hz
  obtain ⟨p2, d, h2, hd, e3⟩ := pick_st (T := [none]) (ds := odd7 w) h1 (by omega) (by simp [odd7]) (by simp [odd7])
  refine ⟨p2, by rw [show n + 2 = n + 1 + 1 from by omega]; exact h2, ?_⟩
  show defF 6 e__law_texts_right [_, _] [p] = _
  have es : startE 6 [.loc 0, tl w] = eT w none none none none := rfl
  have lb : ∀ S, hLst [.val (.str ""), .val (.str "none"), .val (.str "Block")] S = .ok (.val (.lst (ts bents))) S := fun _ => rfl
  have a1 : ∀ S, hTbL tb_add_1 (hOwnB ct) hAdd (tl w) (.val (.lst (ts bents))) S = .ok (.val (.lst (ts w ++ ts bents))) S := fun S => add_ll' (by simp [bents]; omega)
  have a2 : ∀ S, hTbL tb_add_1 (hOwnB ct) hAdd (tl w) (.val (.lst [.str z])) S = .ok (tl (w ++ [z])) S := fun S => by
    rw [add_ll' (by simp; omega)]
    simp [ts]
  have tu : ∀ S, hTup [od w, tl (w ++ [z])] S = .ok (.val (.tup [.obj 11 ["words"] [.tup (ts w)], .lst (ts (w ++ [z]))])) S := fun _ => rfl
  have e0 : e__law_texts_right_0 (eT w none none none none) [p] = .ok (.nx (eT w (some (od w)) (some (tl (w ++ [z]))) none none)) [p1] := by
    unfold e__law_texts_right_0
    simp -implicitDefEqProofs only [z_bind_ok, z_bindS_ok, z_C, z_var, z_kVar, z_op, z_kOp, z_un, z_nil, z_cons, z_kCons, z_kCons2, z_app, z_bool, z_kBool, z_and, z_kAnd_t, z_kAnd_f, z_or, z_kOr_t, z_kOr_f, z_not, z_kNot, z_andE, z_kAndE_t, z_kAndE_f, z_orE, z_kOrE_t, z_kOrE_f, z_ifE, z_kIfE_t, z_kIfE_f, z_frz, z_frz_v, z_seq, z_seq_nx, z_seq_rt, z_seq_bk, z_seq_ct, z_drop, z_kDrop, z_ret, z_kRet, z_retN, z_set, z_kSet, z_if, z_kIf_t, z_kIf_f, z_par, z_kPar, z_asg, z_kAsg, z_kAsg2, z_next, z_break, z_cont, z_gSet, z_for_nil, z_for_cons, z_kFor, z_kFor_nx, z_kFor_ct, z_kFor_bk, z_kFor_rt, z_forI, z_kForI, List.getElem?_cons_zero, List.getElem?_cons_succ, List.set_cons_zero, List.set_cons_succ, made_ok hr hne hl, lb, a1, e1, lst1, a2, tu]
    rfl
  have ed : ∀ env, eDnewN env [p1] = .ok (.loc 1) [p1, some (.dic [] [])] := fun _ => rfl
  have ef : hFrz (.loc 1) [p1, some (.dic [] [])] = .ok (.val (.dic [] [])) [p1, none] := rfl
  have ep : ∀ S, hPow (.val (.int 10)) (.val (.int 20)) S = .ok (.val (.int (10 ^ 20))) S := fun S => by kernel_rfl
  have el : ∀ S, hLst [.val .non, .val (.int 0), .val (.bl true), tl w, od w, .val (.dic [] []), .val (.int (10 ^ 20))] S = .ok (.val (.lst (odd7 w))) S := fun _ => rfl
  have e3' : e__law_texts_right_3 (eT w (some (od w)) (some (tl (w ++ [z]))) none none) [p1] = .ok (.nx (eT w (some (od w)) (some (tl (w ++ [z]))) (some (.val d)) none)) [p2, none] := by
    unfold e__law_texts_right_3
    simp -implicitDefEqProofs only [z_bind_ok, z_bindS_ok, z_C, z_var, z_kVar, z_op, z_kOp, z_un, z_nil, z_cons, z_kCons, z_kCons2, z_app, z_bool, z_kBool, z_and, z_kAnd_t, z_kAnd_f, z_or, z_kOr_t, z_kOr_f, z_not, z_kNot, z_andE, z_kAndE_t, z_kAndE_f, z_orE, z_kOrE_t, z_kOrE_f, z_ifE, z_kIfE_t, z_kIfE_f, z_frz, z_frz_v, z_seq, z_seq_nx, z_seq_rt, z_seq_bk, z_seq_ct, z_drop, z_kDrop, z_ret, z_kRet, z_retN, z_set, z_kSet, z_if, z_kIf_t, z_kIf_f, z_par, z_kPar, z_asg, z_kAsg, z_kAsg2, z_next, z_break, z_cont, z_gSet, z_for_nil, z_for_cons, z_kFor, z_kFor_nx, z_kFor_ct, z_kFor_bk, z_kFor_rt, z_forI, z_kForI, List.getElem?_cons_zero, List.getElem?_cons_succ, List.set_cons_zero, List.set_cons_succ, ed, ef, ep, el, e3]
  have e4 : e__law_texts_right_4 (eT w (some (od w)) (some (tl (w ++ [z]))) (some (.val d)) none) [p2, none] = .ok (.nx (eT w (some (od w)) (some (tl (w ++ [z]))) (some (.val d)) (some (od w.reverse)))) [p2, none] := by
    unfold e__law_texts_right_4
    simp -implicitDefEqProofs only [z_bind_ok, z_bindS_ok, z_C, z_var, z_kVar, z_op, z_kOp, z_un, z_nil, z_cons, z_kCons, z_kCons2, z_app, z_bool, z_kBool, z_and, z_kAnd_t, z_kAnd_f, z_or, z_kOr_t, z_kOr_f, z_not, z_kNot, z_andE, z_kAndE_t, z_kAndE_f, z_orE, z_kOrE_t, z_kOrE_f, z_ifE, z_kIfE_t, z_kIfE_f, z_frz, z_frz_v, z_seq, z_seq_nx, z_seq_rt, z_seq_bk, z_seq_ct, z_drop, z_kDrop, z_ret, z_kRet, z_retN, z_set, z_kSet, z_if, z_kIf_t, z_kIf_f, z_par, z_kPar, z_asg, z_kAsg, z_kAsg2, z_next, z_break, z_cont, z_gSet, z_for_nil, z_for_cons, z_kFor, z_kFor_nx, z_kFor_ct, z_kFor_bk, z_kFor_rt, z_forI, z_kForI, List.getElem?_cons_zero, List.getElem?_cons_succ, List.set_cons_zero, List.set_cons_succ, rev_l, made_ok hr.rev (by simpa using hne) hr.rev.le5]
  rw [z_def, es]
  unfold e__law_texts_right
  rw [z_seq, e0, z_seq_nx, z_seq, t_1 hr hne, z_seq_nx, z_seq, t_2 hr hne hb hz1 hz2, z_seq_nx, z_seq, e3', z_seq_nx, z_seq, e4, z_seq_nx, z_seq, t_5 hr (odd7_ok d hd), z_seq_nx, t_6 hr, z_kDef_v]
  rfl
/-! drawn words -/
structure Two (o l : List Str) : Prop where
  no : o.Nodup
  nl : l.Nodup
  d : ∀ x ∈ o, x ∉ l
  wo : ∀ x ∈ o, x ∈ W5
  wl : ∀ x ∈ l, x ∈ W5
theorem two_step {o l : List Str} (h : Two o l) {j : Nat} (hj : j < l.length) : Two (o ++ [l[j]]) (l.eraseIdx j) := by
  have hm : l[j] ∈ l := List.getElem_mem hj
  have hs := List.eraseIdx_sublist l j
  refine ⟨List.nodup_append.mpr ⟨h.no, by simp, fun a ha b hb e => ?_⟩, hs.nodup h.nl, fun x hx hx2 => ?_, fun x hx => ?_, fun x hx => h.wl x (hs.subset hx)⟩
  · rw [List.mem_singleton.mp hb] at e
    exact h.d a ha (e ▸ hm)
  · rcases List.mem_append.mp hx with hx | hx
    · exact h.d x hx (hs.subset hx2)
    · rw [List.mem_singleton.mp hx] at hx2
      obtain ⟨i, hi, hne, e⟩ := List.mem_eraseIdx_iff_getElem.mp hx2
      rcases Nat.lt_or_ge i j with q | q
      · exact List.pairwise_iff_getElem.mp h.nl i j hi hj q e
      · exact List.pairwise_iff_getElem.mp h.nl j i hj hi (by omega) e.symm
  · rcases List.mem_append.mp hx with hx | hx
    · exact h.wo x hx
    · rw [List.mem_singleton.mp hx]
      exact h.wl _ hm
theorem erase_ts : ∀ (l : List Str) (j : Nat), (ts l).eraseIdx j = ts (l.eraseIdx j)
  | [], _ => rfl
  | _ :: _, 0 => rfl
  | x :: l, j + 1 => by
    show D.str x :: (ts l).eraseIdx j = D.str x :: ts (l.eraseIdx j)
    rw [erase_ts l j]
abbrev teW : Ev A := eBm "list" kPop (eVar 1) (eCons (eApp (callG 2 g__law_draw []) (eCons (eVar 0) (eCons (eApp (hTbC tb_len_1 hOwnLen hLen) (eCons (eVar 1) (eNil))) (eNil)))) (eNil))
theorem words_lc : ∀ (ds : List D) (o l : List Str) (n : Int) (p : Option Con), Pn n p → n + ds.length ≤ 60000 → Two o l → ds.length ≤ l.length → l.length ≤ 100 → o.length + ds.length ≤ 100 →
    ∃ p' o' l', Pn (n + ds.length) p' ∧ Two o' l' ∧ o'.length = o.length + ds.length ∧ lcD 2 (gSet 2) tYesE teW [some (.loc 0), some (.loc 1), none] ds [p, some (.lst (ts l)), some (.lst (ts o))] = .ok () [p', some (.lst (ts l')), some (.lst (ts o'))]
  | [], o, l, n, p, h, _, h2, _, _, _ => ⟨p, o, l, by simpa using h, h2, by simp, rfl⟩
  | d :: ds, o, l, n, p, h, hn, h2, hl, hl2, ho => by
    simp only [List.length_cons] at hn hl ho
    obtain ⟨p1, i, h1, hi0, hi1, e1⟩ := draw_st (T := [some (.lst (ts l)), some (.lst (ts o))]) (m := (l.length : Int)) h (by omega) (by omega) (by omega)
    obtain ⟨j, rfl⟩ : ∃ j : Nat, i = (j : Int) := ⟨i.toNat, by omega⟩
    have hj : j < l.length := by omega
    obtain ⟨p', o', l', a1, a2, a3, a4⟩ := words_lc ds (o ++ [l[j]]) (l.eraseIdx j) (n + 1) p1 h1 (by omega) (two_step h2 hj) (by rw [List.length_eraseIdx_of_lt hj]; omega) (by rw [List.length_eraseIdx_of_lt hj]; omega) (by simp; omega)
    refine ⟨p', o', l', ?_, a2, ?_, ?_⟩
    · simp only [List.length_cons]
      rw [show n + ((ds.length + 1 : Nat) : Int) = n + 1 + ds.length from by omega]
      exact a1
    · rw [a3]
      simp
      omega
    · have el : hTbC tb_len_1 hOwnLen hLen [.loc 1] [p, some (.lst (ts l)), some (.lst (ts o))] = .ok (.val (.int l.length)) [p, some (.lst (ts l)), some (.lst (ts o))] := by
        show Out.ok (A.val (.int ((ts l).length : Nat))) _ = _
        simp
      have ek : kPop (.loc 1) [.val (.int j)] [p1, some (.lst (ts l)), some (.lst (ts o))] = .ok (.val (.str l[j])) [p1, some (.lst (ts (l.eraseIdx j))), some (.lst (ts o))] := by
        have ej : seqIndex? (j : Int) (ts l).length = some j := by
          unfold seqIndex?
          simp
          omega
        have eg : (ts l)[j]? = some (.str l[j]) := by simp [hj]
        unfold kPop
        simp only [List.getElem?_cons_succ, List.getElem?_cons_zero]
        rw [if_pos (by omega), ej]
        dsimp only
        rw [eg]
        dsimp only
        rw [show (ts l).eraseIdx j = ts (l.eraseIdx j) from erase_ts l j]
        rfl
      have et : teW [some (.loc 0), some (.loc 1), some (.val d)] [p, some (.lst (ts l)), some (.lst (ts o))] = .ok (.val (.str l[j])) [p1, some (.lst (ts (l.eraseIdx j))), some (.lst (ts o))] := by
        unfold teW eBm
        simp -implicitDefEqProofs only [z_bind_ok, z_bindS_ok, z_C, z_var, z_kVar, z_op, z_kOp, z_un, z_nil, z_cons, z_kCons, z_kCons2, z_app, z_bool, z_kBool, z_and, z_kAnd_t, z_kAnd_f, z_or, z_kOr_t, z_kOr_f, z_not, z_kNot, z_andE, z_kAndE_t, z_kAndE_f, z_orE, z_kOrE_t, z_kOrE_f, z_ifE, z_kIfE_t, z_kIfE_f, z_frz, z_frz_v, z_seq, z_seq_nx, z_seq_rt, z_seq_bk, z_seq_ct, z_drop, z_kDrop, z_ret, z_kRet, z_retN, z_set, z_kSet, z_if, z_kIf_t, z_kIf_f, z_par, z_kPar, z_asg, z_kAsg, z_kAsg2, z_next, z_break, z_cont, z_gSet, z_for_nil, z_for_cons, z_kFor, z_kFor_nx, z_kFor_ct, z_kFor_bk, z_kFor_rt, z_forI, z_kForI, List.getElem?_cons_zero, List.getElem?_cons_succ, List.set_cons_zero, List.set_cons_succ]
        unfold kBm
        rw [if_pos (show bty [p, some (.lst (ts l)), some (.lst (ts o))] (.loc 1) = some "list" from rfl)]
        simp -implicitDefEqProofs only [z_bind_ok, z_bindS_ok, z_C, z_var, z_kVar, z_op, z_kOp, z_un, z_nil, z_cons, z_kCons, z_kCons2, z_app, z_bool, z_kBool, z_and, z_kAnd_t, z_kAnd_f, z_or, z_kOr_t, z_kOr_f, z_not, z_kNot, z_andE, z_kAndE_t, z_kAndE_f, z_orE, z_kOrE_t, z_kOrE_f, z_ifE, z_kIfE_t, z_kIfE_f, z_frz, z_frz_v, z_seq, z_seq_nx, z_seq_rt, z_seq_bk, z_seq_ct, z_drop, z_kDrop, z_ret, z_kRet, z_retN, z_set, z_kSet, z_if, z_kIf_t, z_kIf_f, z_par, z_kPar, z_asg, z_kAsg, z_kAsg2, z_next, z_break, z_cont, z_gSet, z_for_nil, z_for_cons, z_kFor, z_kFor_nx, z_kFor_ct, z_kFor_bk, z_kFor_rt, z_forI, z_kForI, List.getElem?_cons_zero, List.getElem?_cons_succ, List.set_cons_zero, List.set_cons_succ, el, e1, ek]
      unfold lcD
      rw [show gSet 2 (.val d) [some (.loc 0), some (.loc 1), none] [p, some (.lst (ts l)), some (.lst (ts o))] = .ok [some (.loc 0), some (.loc 1), some (.val d)] [p, some (.lst (ts l)), some (.lst (ts o))] from rfl]
      unfold noExc
      dsimp only
      rw [z_bind_ok]
      show (Out.bind (Out.ok true _) _) = _
      rw [z_bind_ok]
      dsimp only
      rw [et]
      dsimp only
      rw [z_bind_ok]
      dsimp only [List.getElem?_cons_succ, List.getElem?_cons_zero]
      rw [if_pos (by simp; omega)]
      dsimp only [List.set_cons_succ, List.set_cons_zero]
      rw [show ts o ++ [D.str l[j]] = ts (o ++ [l[j]]) from by simp [ts]]
      exact a4
theorem two0 : Two [] W5 := ⟨by simp, by decide +kernel, (fun _ h => by cases h), (fun _ h => by cases h), fun _ h => h⟩
theorem words_ok (h : Pn n p) (hn : n ≤ 50000) : ∃ p' w, Pn (n + 6) p' ∧ Row w ∧ w ≠ [] ∧ callG 1 g__law_words [] [.loc 0] [p] = .ok (tl w) [p'] := by
  obtain ⟨p1, i, h1, hi0, hi1, e1⟩ := draw_st (T := [some (.lst (ts W5))]) (m := 5) h (by omega) (by omega) (by omega)
  obtain ⟨k, rfl⟩ : ∃ k : Nat, i = (k : Int) := ⟨i.toNat, by omega⟩
  have hlen : (rangeD 0 (k + 1)).length = k + 1 := by simp [rangeD]
  obtain ⟨p2, o, l, a1, a2, a3, a4⟩ := words_lc (rangeD 0 (k + 1)) [] W5 (n + 1) p1 h1 (by rw [hlen]; omega) two0 (by rw [hlen]; show _ ≤ 5; omega) (by decide) (by rw [hlen]; simp; omega)
  rw [hlen] at a1 a3
  refine ⟨p2, o, ?_, ⟨a2.no, a2.wo⟩, ?_, ?_⟩
  · obtain ⟨cs, t, r, b1, b2, b3, b4⟩ := a1
    exact ⟨cs, t, r, b1, b2, by omega, b4⟩
  · intro e
    rw [e] at a3
    simp at a3
  · show defF 3 e__law_words [_] [p] = _
    have es : startE 3 [.loc 0] = [some (.loc 0), none, none] := rfl
    have e0 : e__law_words_0 [some (.loc 0), none, none] [p] = .ok (.nx [some (.loc 0), some (.loc 1), none]) [p, some (.lst (ts W5))] := by
      unfold e__law_words_0
      simp -implicitDefEqProofs only [z_bind_ok, z_bindS_ok, z_C, z_var, z_kVar, z_op, z_kOp, z_un, z_nil, z_cons, z_kCons, z_kCons2, z_app, z_bool, z_kBool, z_and, z_kAnd_t, z_kAnd_f, z_or, z_kOr_t, z_kOr_f, z_not, z_kNot, z_andE, z_kAndE_t, z_kAndE_f, z_orE, z_kOrE_t, z_kOrE_f, z_ifE, z_kIfE_t, z_kIfE_f, z_frz, z_frz_v, z_seq, z_seq_nx, z_seq_rt, z_seq_bk, z_seq_ct, z_drop, z_kDrop, z_ret, z_kRet, z_retN, z_set, z_kSet, z_if, z_kIf_t, z_kIf_f, z_par, z_kPar, z_asg, z_kAsg, z_kAsg2, z_next, z_break, z_cont, z_gSet, z_for_nil, z_for_cons, z_kFor, z_kFor_nx, z_kFor_ct, z_kFor_bk, z_kFor_rt, z_forI, z_kForI, List.getElem?_cons_zero, List.getElem?_cons_succ, List.set_cons_zero, List.set_cons_succ, all_new]
      rfl
    have ei : iRange1 (eCons (eOp hAdd (eC (.int 1)) (eApp (callG 2 g__law_draw []) (eCons (eVar 0) (eCons (eC (.int 5)) (eNil))))) (eNil)) [some (.loc 0), some (.loc 1), none] [p, some (.lst (ts W5))] = .ok (rangeD 0 (k + 1)) [p1, some (.lst (ts W5))] := by
      unfold iRange1
      simp -implicitDefEqProofs only [z_bind_ok, z_bindS_ok, z_C, z_var, z_kVar, z_op, z_kOp, z_un, z_nil, z_cons, z_kCons, z_kCons2, z_app, z_bool, z_kBool, z_and, z_kAnd_t, z_kAnd_f, z_or, z_kOr_t, z_kOr_f, z_not, z_kNot, z_andE, z_kAndE_t, z_kAndE_f, z_orE, z_kOrE_t, z_kOrE_f, z_ifE, z_kIfE_t, z_kIfE_f, z_frz, z_frz_v, z_seq, z_seq_nx, z_seq_rt, z_seq_bk, z_seq_ct, z_drop, z_kDrop, z_ret, z_kRet, z_retN, z_set, z_kSet, z_if, z_kIf_t, z_kIf_f, z_par, z_kPar, z_asg, z_kAsg, z_kAsg2, z_next, z_break, z_cont, z_gSet, z_for_nil, z_for_cons, z_kFor, z_kFor_nx, z_kFor_ct, z_kFor_bk, z_kFor_rt, z_forI, z_kForI, List.getElem?_cons_zero, List.getElem?_cons_succ, List.set_cons_zero, List.set_cons_succ, e1, hAdd_i]
      rw [if_pos (by omega), show (1 + (k : Int)).toNat = k + 1 from by omega]
    have el : eLc [2] (iRange1 (eCons (eOp hAdd (eC (.int 1)) (eApp (callG 2 g__law_draw []) (eCons (eVar 0) (eCons (eC (.int 5)) (eNil))))) (eNil))) (gSet 2) (tYesE) teW [some (.loc 0), some (.loc 1), none] [p, some (.lst (ts W5))] = .ok (tl o) [p2, some (.lst (ts l))] := by
      unfold eLc
      rw [ei, z_bind_ok]
      show (lcD 2 (gSet 2) tYesE teW [some (.loc 0), some (.loc 1), none] (rangeD 0 (k + 1)) [p1, some (.lst (ts W5)), some (.lst (ts []))]).bind _ = _
      rw [a4, z_bind_ok]
      rfl
    rw [z_def, es]
    unfold e__law_words
    rw [z_seq, e0, z_seq_nx]
    unfold e__law_words_1
    rw [z_ret, el, z_bindS_ok, z_kRet, z_kDef_v]
    rfl
/-! the law -/
abbrev bodyL : Sv := (sSeq (sSet 3 (eApp (callG 1 g__law_words []) (eCons (eVar 1) (eNil))))
    (sSeq (sIf (tOrE (tNotE (tBool (eApp (callG 2 g__law_is []) (eCons (eApp (callG 1 g__law_made []) (eCons (eVar 3) (eNil))) (eCons (eVar 3) (eNil)))))) (tNotE (tBool (eApp (callG 2 g__law_signs_right []) (eCons (eVar 1) (eCons (eVar 3) (eNil))))))) (sRet (eC (.bl false)))
    (sNext))
    (sIf (tOrE (tNotE (tBool (eApp (callG 2 g__law_refused_right []) (eCons (eVar 1) (eCons (eVar 3) (eNil)))))) (tNotE (tBool (eApp (callG 2 g__law_texts_right []) (eCons (eVar 1) (eCons (eVar 3) (eNil))))))) (sRet (eC (.bl false)))
    (sNext))))
theorem law_1eq : e_law_1 = sFor (iRange1 (eCons (eC (.int 9)) (eNil))) (gSet 2) bodyL := rfl
theorem law_ok (ns : List Int) : ∃ S, g_law [.val (.scr ns)] [] = .ok (.val (.bl true)) S := by
  have e0 : e_law_0 [some (.val (.scr ns)), none, none, none] [] = .ok (.nx [some (.val (.scr ns)), some (.loc 0), none, none]) [some (penC (ns.take 63) 0 0)] := by
    have := pen_ok (S := []) ns
    have e : callG 1 g__law_pen [] [.val (.scr ns)] [] = .ok (.loc 0) [some (penC (ns.take 63) 0 0)] := by
      rw [z_call (as := [.val (.scr ns)]) (n := 1) rfl, g_pen, this]
      rfl
    unfold e_law_0
    simp -implicitDefEqProofs only [z_bind_ok, z_bindS_ok, z_C, z_var, z_kVar, z_op, z_kOp, z_un, z_nil, z_cons, z_kCons, z_kCons2, z_app, z_bool, z_kBool, z_and, z_kAnd_t, z_kAnd_f, z_or, z_kOr_t, z_kOr_f, z_not, z_kNot, z_andE, z_kAndE_t, z_kAndE_f, z_orE, z_kOrE_t, z_kOrE_f, z_ifE, z_kIfE_t, z_kIfE_f, z_frz, z_frz_v, z_seq, z_seq_nx, z_seq_rt, z_seq_bk, z_seq_ct, z_drop, z_kDrop, z_ret, z_kRet, z_retN, z_set, z_kSet, z_if, z_kIf_t, z_kIf_f, z_par, z_kPar, z_asg, z_kAsg, z_kAsg2, z_next, z_break, z_cont, z_gSet, z_for_nil, z_for_cons, z_kFor, z_kFor_nx, z_kFor_ct, z_kFor_bk, z_kFor_rt, z_forI, z_kForI, List.getElem?_cons_zero, List.getElem?_cons_succ, List.set_cons_zero, List.set_cons_succ, e]
  have e1 : ∃ p a b, e_law_1 [some (.val (.scr ns)), some (.loc 0), none, none] [some (penC (ns.take 63) 0 0)] = .ok (.nx [some (.val (.scr ns)), some (.loc 0), a, b]) [p] := by
    have hs : iRange1 (eCons (eC (.int 9)) (eNil)) [some (.val (.scr ns)), some (.loc 0), none, none] [some (penC (ns.take 63) 0 0)] = .ok (rangeD 0 9) [some (penC (ns.take 63) 0 0)] := rfl
    rw [law_1eq, z_for, hs, z_bindS_ok]
    have key := for_inv (t := gSet 2) (s := bodyL) (I := fun k env S => ∃ p a b, Pn (14 * (k : Int)) p ∧ S = [p] ∧ env = [some (.val (.scr ns)), some (.loc 0), a, b]) (ds := rangeD 0 9) (k := 0) (env := [some (.val (.scr ns)), some (.loc 0), none, none]) (S := [some (penC (ns.take 63) 0 0)]) ?_ ⟨_, none, none, ⟨_, 0, 0, rfl, by decide, by decide, by decide⟩, rfl, rfl⟩
    · obtain ⟨env', S', ⟨p, a, b, _, rfl, rfl⟩, e⟩ := key
      exact ⟨p, a, b, e⟩
    · intro j d env S hd hI
      rw [Nat.zero_add] at hI ⊢
      obtain ⟨p, a, b, hp, rfl, rfl⟩ := hI
      have hj : j < 9 := by
        have := (List.getElem?_eq_some_iff.mp hd).1
        simpa [rangeD] using this
      obtain ⟨p1, w, h1, hr, hne, e1⟩ := words_ok hp (by omega)
      obtain ⟨p2, h2, e2⟩ := signs_ok h1 (by omega) hr hne
      obtain ⟨p3, h3, e3⟩ := refused_ok h2 (by omega) hr hne
      obtain ⟨p4, h4, e4⟩ := texts_ok h3 (by omega) hr hne
      refine ⟨[some (.val (.scr ns)), some (.loc 0), some (.val d), b], [p], [some (.val (.scr ns)), some (.loc 0), some (.val d), some (tl w)], [p4], rfl, ?_, p4, _, _, ?_, rfl, rfl⟩
      · simp -implicitDefEqProofs only [z_bind_ok, z_bindS_ok, z_C, z_var, z_kVar, z_op, z_kOp, z_un, z_nil, z_cons, z_kCons, z_kCons2, z_app, z_bool, z_kBool, z_and, z_kAnd_t, z_kAnd_f, z_or, z_kOr_t, z_kOr_f, z_not, z_kNot, z_andE, z_kAndE_t, z_kAndE_f, z_orE, z_kOrE_t, z_kOrE_f, z_ifE, z_kIfE_t, z_kIfE_f, z_frz, z_frz_v, z_seq, z_seq_nx, z_seq_rt, z_seq_bk, z_seq_ct, z_drop, z_kDrop, z_ret, z_kRet, z_retN, z_set, z_kSet, z_if, z_kIf_t, z_kIf_f, z_par, z_kPar, z_asg, z_kAsg, z_kAsg2, z_next, z_break, z_cont, z_gSet, z_for_nil, z_for_cons, z_kFor, z_kFor_nx, z_kFor_ct, z_kFor_bk, z_kFor_rt, z_forI, z_kForI, List.getElem?_cons_zero, List.getElem?_cons_succ, List.set_cons_zero, List.set_cons_succ, e1, made_ok hr hne hr.le5, is_ok hr hne, Bool.not_true, e2, e3, e4]
      · rw [show 14 * ((j + 1 : Nat) : Int) = 14 * (j : Int) + 6 + 2 + 4 + 2 from by omega]
        exact h4
  obtain ⟨p, a, b, e1⟩ := e1
  have e2 : e_law_2 [some (.val (.scr ns)), some (.loc 0), a, b] [p] = .ok (.rt (.val (.bl true))) [p] := by kernel_rfl
  refine ⟨[], ?_⟩
  show defF 4 e_law [_] [] = _
  have es : startE 4 [.val (.scr ns)] = [some (.val (.scr ns)), none, none, none] := rfl
  rw [z_def, es]
  unfold e_law
  rw [z_seq, e0, z_seq_nx, z_seq, e1, z_seq_nx, e2, z_kDef_v]
  rfl
end
end Lw


namespace Lw
open PySem PySem.Spec PyProof.Rows L2 R
abbrev Rw : PySem.W.OpenRow := PySem.W.OpenLaw.row PySem.Challenge.rw_rowvault_k78_orders_made_and_told
abbrev hk : PySem.W.Hook := hookR 6 fa fn tf ex
def loose : List PySem.Str := (["_wall", "is_integer", "is_between", "VaultError", "BadInput", "Refused", "BadLayout", "BadRule", "BadOrder", "BadPlace", "BadCount", "BadText", "TooMany", "Torn", "Order", "is_word", "_law_pen", "_law_draw", "_law_pick", "_law_heard"] : List PySem.Str) ++ (["_law_all", "_law_words", "_law_made", "_law_is", "_law_signs_right", "_law_refused_right", "_law_texts_right"] : List PySem.Str)
def ob (s : PySem.W.SharedT) : Bool × AlR := obsRG 6 fa fn tf ex (HandSHeadRun.getT s)
theorem ob_eq (s : PySem.W.SharedT) : ob s = hk.obs s.abs := obsRG_eq (HandSHeadRun.getT_eq s)
theorem run (w : World) : HandSHeadRun.RunEq Rw (PySem.W.view Rw.prog [31]) hk ob 12000 loose w := by
  intro os
  kernel_rfl
end Lw


open PySem PySem.W PySem.Calls PyProof.Rows in
theorem PySem.Challenge.cw_rowvault_k78_orders_made_and_told_holds : PySem.Challenge.rw_rowvault_k78_orders_made_and_told.Holds := by
  w_on; o_law
  refine HandSHeadRun.head_any (r := OpenLaw.row PySem.Challenge.rw_rowvault_k78_orders_made_and_told) (q := view (OpenLaw.row PySem.Challenge.rw_rowvault_k78_orders_made_and_told).prog [31]) (H := Lw.hk) (ob := Lw.ob) (M := 12000) (loose := Lw.loose) (d := HandSHeadRun.topDef (OpenLaw.row PySem.Challenge.rw_rowvault_k78_orders_made_and_told).prog 31) (kwd := []) Lw.ob_eq
    (by kernel_rfl) (fun s => by kernel_rfl) Lw.run (by kernel_rfl) (by kernel_rfl) (by kernel_rfl) (by rfl) (by decide +kernel) (by decide +kernel) ⟨rfl, rfl, rfl, rfl, rfl, by decide +kernel⟩ ?hw ?hc
  case hw => w_witness2
  case hc =>
    refine R.walkG (l := PySem.Challenge.rw_rowvault_k78_orders_made_and_told) (n := 63) (k := 10) (x := "_law_script") rfl (by decide) (by kernel_rfl) ⟨rfl, by decide, by decide⟩ ?F
    intro w mg fa h Y G hmg0
    obtain ⟨K, KX, c, TK, hsm⟩ := Y
    have hmg : mg ("law" : PySem.Str) = some (.ref fa) := by
      have e : (HandSHeadRun.topDef (OpenLaw.row PySem.Challenge.rw_rowvault_k78_orders_made_and_told).prog 31).name = ("law" : PySem.Str) := by kernel_rfl
      rw [← e]
      exact hmg0
    have T : R.Tx Lw.fa Lw.fn Lw.ex K mg := ⟨⟨h, KX, G⟩, c⟩
    have ea := hmg.symm.trans (T.glo 0)
    cases ea
    obtain ⟨fd, FF⟩ := T.c.def_ 25
    have b := L2.FunD.bindsA (ps := ["_law_script"]) FF fun _ _ _ _ _ _ us hl => match us, hl with | [_], _ => rfl
    refine ⟨K, Lw.tf, fd, R.SpF K (Lw.cls K) 1 Lw.g_law, KX, TK, Lw.ex_sm T, hsm, fun s u => b s [u] rfl, fun H a ns _ hm hT hS => R.spF_law hm (fun p hp => ?_) hS (Lw.law_ok ns), fun base _ _ tb => Lw.okG_law ⟨T, tb⟩ FF⟩
    obtain ⟨q, hq, rfl⟩ := List.mem_map.mp hp
    exact hT q.1 (List.mem_map.mpr ⟨q, hq, rfl⟩)
