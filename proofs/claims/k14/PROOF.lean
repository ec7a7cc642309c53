import PyProof.Rows.All
import Wide.All
import OpenK.AllK
import Wide.FinOn
import HandS.List
import HandS.Comp
import HandS.Dict
import HandS.Iter
import HandS.Text
import HandS.Flow
import HandS.IsInst
import HandS.Words
import HandS.Exc
import KE.DataEq
import KE.DataCmp
import HandS.ForMost
import HandS.Wide
import HandS.TupAny
import HandS.Deep
import HandS.Walk
import HandS.StrMore
import HandS.TryOnly
import HandS.RaiseMore
import HandS.Style
import HandS.AnyAll
import HandS.More
import HandS.SetKeys
import PyProof.ReprRoads
import HandS.ExcOwn
import HandS.Zip
import HandS.Zip0
import PyProof.Draws
import PyProof.EnumMake
import HandS.Set
import HandS.Strs
import PyProof.Rows.SortShellAny
import KE.LtData
import KE.SortData
import HandS.Head0
import HandS.Head1
import HandS.Head2
import HandS.HeadEnd
import HandS.HeadHook1
import HandS.HeadHook2
import HandS.HeadHook3
import PySem.Challenge.RW_shuntrounds_k14_what_is_no_program
section
set_option Elab.async false
set_option linter.all false
set_option maxRecDepth 100000
/-! PD0: pure data, how a value stands for it in the abstract heap, owned cells, frames -/
namespace PD
open PySem PySem.Spec PyProof.Rows L2

inductive D where
  | non
  | bl (b : Bool)
  | int (i : Int)
  | str (s : Str)
  | tup (xs : List D)
  | lst (xs : List D)
  | dct (t : Bool) (kvs : List (D × D))
  | fz (kvs : List (D × D))
  | scr (ns : List Int)
  | obj (c : Nat) (fs : List (Str × D))
deriving Inhabited

mutual
def py : D → PyData
  | .non => .none
  | .bl b => .bool b
  | .int i => .int i
  | .str s => .str s
  | .tup xs => .tuple (pyL xs)
  | .lst xs => .list (pyL xs)
  | .dct _ kvs => .dict (pyK kvs)
  | .fz _ => .none
  | .scr _ => .none
  | .obj _ _ => .none
def pyL : List D → List PyData
  | [] => []
  | x :: xs => py x :: pyL xs
def pyK : List (D × D) → List (PyData × PyData)
  | [] => []
  | (k, v) :: r => (py k, py v) :: pyK r
end
mutual
/-- no dict, no object within, at most n deep -/
def plain : Nat → D → Bool
  | _, .non => true
  | _, .bl _ => true
  | _, .int _ => true
  | _, .str _ => true
  | 0, .tup _ => false
  | n + 1, .tup xs => plainL n xs
  | 0, .lst _ => false
  | n + 1, .lst xs => plainL n xs
  | _, .dct _ _ => false
  | _, .fz _ => false
  | _, .scr _ => false
  | _, .obj _ _ => false
def plainL : Nat → List D → Bool
  | _, [] => true
  | n, x :: xs => plain n x && plainL n xs
end

def kD : Key → D
  | .inl i => .int i
  | .inr s => .str s
def kDs (k : List Key) : D := .tup (k.map kD)

def KT (K : PySem.W.Frag) (a : Addr) (xs : List V) : Prop :=
  ∃ (o : Obj) (its : Array Value) (n : Nat), K.lookup a = some o ∧ o.cls = .type "tuple" ∧ o.data = .seq its n ∧ its.size ≤ sizeLine ∧ Vals xs its.toList

/-- a written list -/
def KL (K : PySem.W.Frag) (a : Addr) (xs : List V) : Prop :=
  ∃ (o : Obj) (its : Array Value) (n : Nat), K.lookup a = some o ∧ o.cls = .type "list" ∧ o.dict = none ∧ o.data = .seq its n ∧ its.size ≤ sizeLine ∧ Vals xs its.toList

mutual
inductive Rep (K : PySem.W.Frag) (cl : Nat → Addr) (H : Hp) (O : Addr → Prop) : V → D → Prop
  | non : Rep K cl H O .non .non
  | bl (b : Bool) : Rep K cl H O (.bl b) (.bl b)
  | int (i : Int) : Rep K cl H O (.int i) (.int i)
  | str (s : Str) : Rep K cl H O (.str s) (.str s)
  | tup {a : Addr} {xs : List V} {ds : List D} : Rd H a (.tup xs) → ¬ O a → RepA K cl H O xs ds → Rep K cl H O (.ref a) (.tup ds)
  | tupK {a : Addr} {xs : List V} {ds : List D} : KT K a xs → RepA K cl H O xs ds → Rep K cl H O (.ref a) (.tup ds)
  | lst {a : Addr} {xs : List V} {ds : List D} : H a = some (.lst xs) → ¬ O a → RepA K cl H O xs ds → Rep K cl H O (.ref a) (.lst ds)
  | scr {a : Addr} {ns : List Int} : Rd H a (.lst (ns.map V.int)) → ¬ O a → Rep K cl H O (.ref a) (.scr ns)
  | scrK {a : Addr} {ns : List Int} : KL K a (ns.map V.int) → Rep K cl H O (.ref a) (.scr ns)
  | dK {a : Addr} {kvs : List (Key × V)} {ds : List (D × D)} : H a = some (.dK kvs) → ¬ O a → ds.map (·.1) = kvs.map (fun p => kD p.1) → RepA K cl H O (kvs.map (·.2)) (ds.map (·.2)) → Rep K cl H O (.ref a) (.dct false ds)
  | dT {a : Addr} {kvs : List (List Key × V)} {ds : List (D × D)} : H a = some (.dT kvs) → ¬ O a → ds.map (·.1) = kvs.map (fun p => kDs p.1) → RepA K cl H O (kvs.map (·.2)) (ds.map (·.2)) → Rep K cl H O (.ref a) (.dct true ds)
  | fK {a : Addr} {o : Obj} {kvs : List (Key × V)} {ds : List (D × D)} : H a = some (.frz o (.dK kvs)) → ¬ O a → ds.map (·.1) = kvs.map (fun p => kD p.1) → RepA K cl H O (kvs.map (·.2)) (ds.map (·.2)) → Rep K cl H O (.ref a) (.fz ds)
  | obj {a dx : Addr} {c : Nat} {fs : List (Str × V)} {ds : List (Str × D)} : H a = some (.ins (cl c) dx fs) → ¬ O a → ds.map (·.1) = fs.map (·.1) → RepA K cl H O (fs.map (·.2)) (ds.map (·.2)) → Rep K cl H O (.ref a) (.obj c ds)
inductive RepA (K : PySem.W.Frag) (cl : Nat → Addr) (H : Hp) (O : Addr → Prop) : List V → List D → Prop
  | nil : RepA K cl H O [] []
  | cons {v : V} {vs : List V} {d : D} {ds : List D} : Rep K cl H O v d → RepA K cl H O vs ds → RepA K cl H O (v :: vs) (d :: ds)
end

section
variable {K : PySem.W.Frag} {cl : Nat → Addr} {H H' : Hp} {O O' : Addr → Prop}

theorem rd_fr {a : Addr} {u : HO} (hf : ∀ a o, ¬ O a → H a = some o → H' a = some o) (n : ¬ O a) (h : Rd H a u) : Rd H' a u := by
  rcases h with h | ⟨o, h⟩
  · exact .inl (hf _ _ n h)
  · exact .inr ⟨o, hf _ _ n h⟩
theorem rd_some {a : Addr} {u : HO} (h : Rd H a u) : (H a).isSome = true := by
  rcases h with h | ⟨o, h⟩ <;> rw [h] <;> rfl

mutual
theorem Rep.frame (hf : ∀ a o, ¬ O a → H a = some o → H' a = some o) (ho : ∀ a, (H a).isSome = true → O' a → O a) : ∀ {v : V} {d : D}, Rep K cl H O v d → Rep K cl H' O' v d
  | _, _, .non => .non
  | _, _, .bl b => .bl b
  | _, _, .int i => .int i
  | _, _, .str s => .str s
  | _, _, .tup r n h => .tup (rd_fr hf n r) (fun z => n (ho _ (rd_some r) z)) (RepA.frame hf ho h)
  | _, _, .tupK r h => .tupK r (RepA.frame hf ho h)
  | _, _, .lst r n h => .lst (hf _ _ n r) (fun z => n (ho _ (by rw [r]; rfl) z)) (RepA.frame hf ho h)
  | _, _, .scr r n => .scr (rd_fr hf n r) (fun z => n (ho _ (rd_some r) z))
  | _, _, .scrK r => .scrK r
  | _, _, .dK r n e h => .dK (hf _ _ n r) (fun z => n (ho _ (by rw [r]; rfl) z)) e (RepA.frame hf ho h)
  | _, _, .dT r n e h => .dT (hf _ _ n r) (fun z => n (ho _ (by rw [r]; rfl) z)) e (RepA.frame hf ho h)
  | _, _, .fK r n e h => .fK (hf _ _ n r) (fun z => n (ho _ (by rw [r]; rfl) z)) e (RepA.frame hf ho h)
  | _, _, .obj r n e h => .obj (hf _ _ n r) (fun z => n (ho _ (by rw [r]; rfl) z)) e (RepA.frame hf ho h)
theorem RepA.frame (hf : ∀ a o, ¬ O a → H a = some o → H' a = some o) (ho : ∀ a, (H a).isSome = true → O' a → O a) : ∀ {vs : List V} {ds : List D}, RepA K cl H O vs ds → RepA K cl H' O' vs ds
  | _, _, .nil => .nil
  | _, _, .cons h t => .cons (Rep.frame hf ho h) (RepA.frame hf ho t)
end

theorem RepA.length : ∀ {vs : List V} {ds : List D}, RepA K cl H O vs ds → vs.length = ds.length
  | _, _, .nil => rfl
  | _, _, .cons _ t => congrArg (· + 1) (RepA.length t)
theorem RepA.get : ∀ {vs : List V} {ds : List D} {i : Nat} {v : V}, RepA K cl H O vs ds → vs[i]? = some v → ∃ d, ds[i]? = some d ∧ Rep K cl H O v d
  | _, _, _, _, .nil, e => by simp at e
  | _, _, 0, _, .cons h _, e => by simp at e; subst e; exact ⟨_, rfl, h⟩
  | _, _, i + 1, v, .cons _ t, e => by
    obtain ⟨d, e1, h⟩ := RepA.get (i := i) (v := v) t (by simpa using e)
    exact ⟨d, by simpa using e1, h⟩
theorem RepA.getD : ∀ {vs : List V} {ds : List D} {i : Nat} {d : D}, RepA K cl H O vs ds → ds[i]? = some d → ∃ v, vs[i]? = some v ∧ Rep K cl H O v d
  | _, _, _, _, .nil, e => by simp at e
  | _, _, 0, _, .cons h _, e => by simp at e; subst e; exact ⟨_, rfl, h⟩
  | _, _, i + 1, d, .cons _ t, e => by
    obtain ⟨v, e1, h⟩ := RepA.getD (i := i) (d := d) t (by simpa using e)
    exact ⟨v, by simpa using e1, h⟩
theorem RepA.append : ∀ {vs ws : List V} {ds es : List D}, RepA K cl H O vs ds → RepA K cl H O ws es → RepA K cl H O (vs ++ ws) (ds ++ es)
  | _, _, _, _, .nil, s => s
  | _, _, _, _, .cons r t, s => .cons r (RepA.append t s)
theorem RepA.take : ∀ {vs : List V} {ds : List D} (n : Nat), RepA K cl H O vs ds → RepA K cl H O (vs.take n) (ds.take n)
  | _, _, 0, _ => .nil
  | _, _, _ + 1, .nil => .nil
  | _, _, n + 1, .cons r t => .cons r (RepA.take n t)
theorem RepA.drop : ∀ {vs : List V} {ds : List D} (n : Nat), RepA K cl H O vs ds → RepA K cl H O (vs.drop n) (ds.drop n)
  | _, _, 0, r => r
  | _, _, _ + 1, .nil => .nil
  | _, _, n + 1, .cons _ t => RepA.drop n t
theorem RepA.set {v : V} {d : D} (r : Rep K cl H O v d) : ∀ {vs : List V} {ds : List D} (i : Nat), RepA K cl H O vs ds → RepA K cl H O (vs.set i v) (ds.set i d)
  | _, _, _, .nil => .nil
  | _, _, 0, .cons _ t => .cons r t
  | _, _, i + 1, .cons q t => .cons q (RepA.set r i t)
theorem RepA.erase : ∀ {vs : List V} {ds : List D} (i : Nat), RepA K cl H O vs ds → RepA K cl H O (vs.eraseIdx i) (ds.eraseIdx i)
  | _, _, _, .nil => .nil
  | _, _, 0, .cons _ t => t
  | _, _, i + 1, .cons q t => .cons q (RepA.erase i t)
theorem RepA.reverse : ∀ {vs : List V} {ds : List D}, RepA K cl H O vs ds → RepA K cl H O vs.reverse ds.reverse
  | _, _, .nil => .nil
  | _, _, .cons r t => by
    rw [List.reverse_cons, List.reverse_cons]
    exact (RepA.reverse t).append (.cons r .nil)
theorem RepA.snoc {v : V} {d : D} {vs : List V} {ds : List D} (h : RepA K cl H O vs ds) (r : Rep K cl H O v d) : RepA K cl H O (vs ++ [v]) (ds ++ [d]) := h.append (.cons r .nil)

/-- a cell that is owned: tracked, its items clean -/
inductive Own (K : PySem.W.Frag) (cl : Nat → Addr) (H : Hp) (O : Addr → Prop) (a : Addr) : D → Prop
  | lst {xs : List V} {ds : List D} : H a = some (.lst xs) → RepA K cl H O xs ds → Own K cl H O a (.lst ds)
  | dK {kvs : List (Key × V)} {ds : List (D × D)} : H a = some (.dK kvs) → ds.map (·.1) = kvs.map (fun p => kD p.1) → RepA K cl H O (kvs.map (·.2)) (ds.map (·.2)) → Own K cl H O a (.dct false ds)
  | dT {kvs : List (List Key × V)} {ds : List (D × D)} : H a = some (.dT kvs) → ds.map (·.1) = kvs.map (fun p => kDs p.1) → RepA K cl H O (kvs.map (·.2)) (ds.map (·.2)) → Own K cl H O a (.dct true ds)
  | obj {dx : Addr} {c : Nat} {fs : List (Str × V)} {ds : List (Str × D)} : H a = some (.ins (cl c) dx fs) → ds.map (·.1) = fs.map (·.1) → RepA K cl H O (fs.map (·.2)) (ds.map (·.2)) → Own K cl H O a (.obj c ds)
theorem Own.there {a : Addr} {d : D} (h : Own K cl H O a d) : (H a).isSome = true := by cases h <;> simp_all
theorem Own.frame {a : Addr} {d : D} (h : Own K cl H O a d) (ea : H' a = H a) (hf : ∀ a o, ¬ O a → H a = some o → H' a = some o) (ho : ∀ a, (H a).isSome = true → O' a → O a) : Own K cl H' O' a d := by
  cases h with
  | lst e r => exact .lst (ea.trans e) (r.frame hf ho)
  | dK e k r => exact .dK (ea.trans e) k (r.frame hf ho)
  | dT e k r => exact .dT (ea.trans e) k (r.frame hf ho)
  | obj e k r => exact .obj (ea.trans e) k (r.frame hf ho)
/-- an owned cell that is given away -/
theorem Own.rep {a : Addr} {d : D} (h : Own K cl H O a d) (ho : ∀ a, O' a → O a) (n : ¬ O' a) : Rep K cl H O' (.ref a) d := by
  have f : ∀ (a : Addr) (o : HO), ¬ O a → H a = some o → H a = some o := fun _ _ _ e => e
  cases h with
  | lst e r => exact .lst e n (r.frame f fun a _ => ho a)
  | dK e k r => exact .dK e n k (r.frame f fun a _ => ho a)
  | dT e k r => exact .dT e n k (r.frame f fun a _ => ho a)
  | obj e k r => exact .obj e n k (r.frame f fun a _ => ho a)

theorem KT.seq {a : Addr} {xs : List V} (h : KT K a xs) : SqT K H a xs := .inr h
theorem Rep.shrink {v : V} {d : D} (h : Rep K cl H O v d) (ho : ∀ a, O' a → O a) : Rep K cl H O' v d := h.frame (fun _ _ _ e => e) fun a _ => ho a
theorem RepA.shrink {v : List V} {d : List D} (h : RepA K cl H O v d) (ho : ∀ a, O' a → O a) : RepA K cl H O' v d := h.frame (fun _ _ _ e => e) fun a _ => ho a

/-! ### plain data is the layer's own data -/
mutual
theorem Rep.dp : ∀ (n : Nat) (d : D) {v : V}, plain n d = true → Rep K cl H O v d → Dp K H v (py d)
  | n, .non, _, _, h => by cases h; exact .non
  | n, .bl b, _, _, h => by cases h; exact .bl b
  | n, .int i, _, _, h => by cases h; exact .int i
  | n, .str s, _, _, h => by cases h; exact .str s
  | 0, .tup xs, _, p, _ => by simp [plain] at p
  | n + 1, .tup xs, _, p, h => by
    have p : plainL n xs = true := by simpa [plain] using p
    cases h with
    | tup r _ q => exact .tup (.inl r) (RepA.dp n xs p q)
    | tupK r q => exact .tup r.seq (RepA.dp n xs p q)
  | 0, .lst xs, _, p, _ => by simp [plain] at p
  | n + 1, .lst xs, _, p, h => by
    have p : plainL n xs = true := by simpa [plain] using p
    cases h with
    | lst r _ q => exact .lst (.inl (.inl r)) (RepA.dp n xs p q)
  | n, .dct _ _, _, p, _ => by simp [plain] at p
  | n, .fz _, _, p, _ => by simp [plain] at p
  | n, .scr _, _, p, _ => by simp [plain] at p
  | n, .obj _ _, _, p, _ => by simp [plain] at p
theorem RepA.dp : ∀ (n : Nat) (ds : List D) {vs : List V}, plainL n ds = true → RepA K cl H O vs ds → DpAll K H vs (pyL ds)
  | n, [], _, _, h => by cases h; exact .nil
  | n, d :: ds, _, p, h => by
    have p : plain n d = true ∧ plainL n ds = true := by simpa [plainL] using p
    cases h with
    | cons h t => exact .cons (Rep.dp n d p.1 h) (RepA.dp n ds p.2 t)
end
mutual
theorem plain_py : ∀ (n : Nat) (d : D), plain n d = true → (py d).plain = true ∧ (py d).depth ≤ n
  | n, .non, _ => by simp [py, PyData.plain, PyData.depth]
  | n, .bl b, _ => by simp [py, PyData.plain, PyData.depth]
  | n, .int i, _ => by simp [py, PyData.plain, PyData.depth]
  | n, .str s, _ => by simp [py, PyData.plain, PyData.depth]
  | 0, .tup xs, p => by simp [plain] at p
  | n + 1, .tup xs, p => by
    have p : plainL n xs = true := by simpa [plain] using p
    have q := plainL_py n xs p
    simp only [py, PyData.plain, PyData.depth]
    exact ⟨q.1, by have := q.2; omega⟩
  | 0, .lst xs, p => by simp [plain] at p
  | n + 1, .lst xs, p => by
    have p : plainL n xs = true := by simpa [plain] using p
    have q := plainL_py n xs p
    simp only [py, PyData.plain, PyData.depth]
    exact ⟨q.1, by have := q.2; omega⟩
  | n, .dct _ _, p => by simp [plain] at p
  | n, .fz _, p => by simp [plain] at p
  | n, .scr _, p => by simp [plain] at p
  | n, .obj _ _, p => by simp [plain] at p
theorem plainL_py : ∀ (n : Nat) (ds : List D), plainL n ds = true → PyData.plainAll (pyL ds) = true ∧ PyData.depthAll (pyL ds) ≤ n
  | n, [], _ => by simp [pyL, PyData.plainAll, PyData.depthAll]
  | n, d :: ds, p => by
    have p : plain n d = true ∧ plainL n ds = true := by simpa [plainL] using p
    have q := plain_py n d p.1
    have r := plainL_py n ds p.2
    simp only [pyL, PyData.plainAll, PyData.depthAll, q.1, r.1, Bool.and_self, true_and]
    have := q.2
    have := r.2
    omega
end
theorem pyL_map : ∀ xs : List D, pyL xs = xs.map py
  | [] => rfl
  | x :: xs => by rw [pyL, List.map_cons, pyL_map xs]
theorem pyL_length (xs : List D) : (pyL xs).length = xs.length := by rw [pyL_map, List.length_map]
end
end PD
end

section
set_option Elab.async false
set_option linter.all false
set_option maxRecDepth 100000
/-! PD1: the small language and its evaluator -/
namespace PD
open PySem PySem.Spec PyProof.Rows L2

abbrev Env := List (Option D)
inductive R (α : Type) where
  | ok (a : α) (ρ : Env)
  | ex (c : Nat) (fs : List D) (ρ : Env)
  | no
def R.bind {α β : Type} (r : R α) (f : α → Env → R β) : R β :=
  match r with
  | .ok a ρ => f a ρ
  | .ex c fs ρ => .ex c fs ρ
  | .no => .no
def ofO {α : Type} (o : Option α) (ρ : Env) : R α :=
  match o with
  | some a => .ok a ρ
  | none => .no
/-- what a call comes to: the value and the new data of the parameters that are changed -/
inductive C where
  | ok (d : D) (io : Env)
  | ex (c : Nat) (fs : List D) (io : Env)
  | no

inductive Bop | add | sub | mul | fdiv | mod | pow
deriving DecidableEq
inductive Cop | eq | ne | lt | le | gt | ge | isin | nin | is | isn
deriving DecidableEq
inductive B1 | len | abs | int | str | repr | all | any | sorted | tuple | list | sum | max | min | sset
deriving DecidableEq
inductive B2 | max | min
deriving DecidableEq
inductive Ty | int | str | bool | tuple | list | dict
deriving DecidableEq
/-- methods that change nothing -/
inductive Mt | split | join | strip | upper | index | get
deriving DecidableEq
/-- methods that change a list of one's own -/
inductive Mm | append | extend | pop
deriving DecidableEq
inductive Tg | nm (i : Nat) | tp (is : List Nat)

mutual
inductive Ex
  | var (i : Nat) | bor (i : Nat)
  | non | bl (b : Bool) | int (i : Int) | str (s : Str)
  | nop
  | glo (g : Nat)
  | tup (es : Exs) | lst (es : Exs) | dct (t : Bool) (ks vs : Exs)
  | bin (o : Bop) (a b : Ex) | neg (a : Ex)
  | cmp (o : Cop) (a b : Ex) | chn (o o' : Cop) (a b c : Ex)
  | nt (a : Ex) | an (a b : Ex) | orr (a b : Ex) | ite (t a b : Ex)
  | ix (a b : Ex) | sl (a lo hi : Ex) | rev (a : Ex)
  | cal (f : Nat) (es : Exs)
  | b1 (b : B1) (a : Ex) | b2 (b : B2) (a c : Ex)
  | isi (a : Ex) (t : Ty)
  | m0 (m : Mt) (a : Ex) | m1 (m : Mt) (a b : Ex) | m2 (m : Mt) (a b c : Ex)
  | mm0 (m : Mm) (i : Nat) | mm1 (m : Mm) (i : Nat) (a : Ex)
  | cmpr (e : Ex) (tg : Tg) (own : List Nat) (it : It) (cd : Ex)
  | gin (g : Nat) (neg : Bool) (a : Ex) | gget (g : Nat) (a : Ex)
  | lockd (i : Nat) (e : Ex) | sdf (i : Nat) (a b : Ex)
inductive Exs | nil | cons (e : Ex) (es : Exs)
inductive It
  | ex (e : Ex) | rng1 (a : Ex) | rng2 (a b : Ex) | rng3 (a b c : Ex) | zip (a b : Ex) | enum (a : Ex)
end
mutual
inductive Sm
  | asg (tg : Tg) (e : Ex)
  | own (i : Nat) (e : Ex)
  | par (is : List Nat) (es : Exs)
  | setix (i : Nat) (k e : Ex)
  | aug (i : Nat) (o : Bop) (e : Ex)
  | expr (e : Ex)
  | ite (c : Ex) (a b : Sms)
  | whl (c : Ex) (b : Sms)
  | fr (tg : Tg) (it : It) (b : Sms)
  | ret (e : Ex) | retN | retO (i : Nat)
  | pass | brk | cnt
inductive Sms | nil | cons (s : Sm) (ss : Sms)
end
/-- a def: its parameters, its slots, which of them are owned, whether it returns a new cell of its own -/
structure Fn where
  np : Nat
  ns : Nat
  M : List Bool
  fresh : Bool
  body : Sms
def Fn.io (F : Fn) : List Bool := F.M.take F.np
inductive SR where
  | nxt (ρ : Env) | brk (ρ : Env) | cnt (ρ : Env) | ret (d : D) (ρ : Env) | ex (c : Nat) (fs : List D) (ρ : Env) | no

/-! ### what the operations do to data -/
def fits (s : Str) : Bool := decide (s.length ≤ sizeLine)
def fitn (n : Nat) : Bool := decide (n ≤ sizeLine)
def lenD : D → Option Nat
  | .str s => if fits s then some s.length else none
  | .tup xs => some xs.length
  | .lst xs => some xs.length
  | .scr ns => some ns.length
  | _ => none
def truD : D → Option Bool
  | .non => some false
  | .bl b => some b
  | .int i => some (i != 0)
  | .str s => if fits s then some ((s.length : Int) != 0) else none
  | .tup xs => some (!xs.isEmpty)
  | .lst xs => some (!xs.isEmpty)
  | _ => none
def eqD : D → D → Option Bool
  | .str a, .str b => some (decide (a = b))
  | .int a, .int b => some (decide (a = b))
  | .tup [], .tup ys => some ys.isEmpty
  | .tup xs, .tup [] => some xs.isEmpty
  | .lst xs, .lst [] => some xs.isEmpty
  | d, e => if plain 60 d && plain 60 e then some (PyData.eqv (py d) (py e)) else none
def ltI (o : Cop) (i j : Int) : Option Bool :=
  match o with
  | .lt => some (decide (i < j)) | .le => some (decide (i ≤ j)) | .gt => some (decide (j < i)) | .ge => some (decide (j ≤ i)) | _ => none
def sub1 (x z : Str) : Bool := !(Builtin.Str.occurrences z x 0 z.length 1).isEmpty
def inD : D → D → Option Bool
  | .str x, .str z => some (sub1 x z)
  | x, .lst xs => if plain 60 x && plainL 59 xs then some (xs.any fun z => PyData.eqv (py z) (py x)) else none
  | x, .tup xs => if plain 60 x && plainL 59 xs then some (xs.any fun z => PyData.eqv (py z) (py x)) else none
  | _, _ => none
def isNonD : D → Bool
  | .non => true
  | _ => false
def cmpD (o : Cop) (d e : D) : Option D :=
  match o with
  | .eq => (eqD d e).map .bl
  | .ne => (eqD d e).map fun b => .bl (!b)
  | .isin => (inD d e).map .bl
  | .nin => (inD d e).map fun b => .bl (!b)
  | .is => match e with | .non => some (.bl (isNonD d)) | _ => none
  | .isn => match e with | .non => some (.bl (!isNonD d)) | _ => none
  | o => match d, e with
    | .int i, .int j => (ltI o i j).map .bl
    | _, _ => none
def mulOk (i j : Int) : Bool := (decide (-(2 ^ 64) < i) && decide (i < 2 ^ 64)) || (decide (-(2 ^ 64) < j) && decide (j < 2 ^ 64)) || decide (i.natAbs.log2 + j.natAbs.log2 < 1000000)
def binD (o : Bop) (d e : D) : Option D :=
  match o, d, e with
  | .add, .int i, .int j => some (.int (i + j))
  | .add, .str x, .str y => if fitn (x.length + y.length) then some (.str (x ++ y)) else none
  | .add, .tup xs, .tup ys => if fitn (xs.length + ys.length) then some (.tup (xs ++ ys)) else none
  | .add, .lst xs, .lst ys => if fitn (xs.length + ys.length) then some (.lst (xs ++ ys)) else none
  | .sub, .int i, .int j => some (.int (i - j))
  | .mul, .int i, .int j => if mulOk i j then some (.int (i * j)) else none
  | .fdiv, .int i, .int j => if decide (0 < j) && decide (j.natAbs.log2 < 9000) then some (.int (i / j)) else none
  | .mod, .int i, .int j => if decide (0 < j) then some (.int (i % j)) else none
  | .pow, .int i, .int j => if decide (0 ≤ j) && decide (j ≤ 1000000) && decide (i.natAbs < 2 ^ 64) then some (.int (i ^ j.toNat)) else none
  | _, _, _ => none
def negD : D → Option D
  | .int i => some (.int (-i))
  | _ => none
def keq : D → D → Bool
  | .int i, .int j => decide (i = j)
  | .str x, .str y => decide (x = y)
  | _, _ => false
def dget (kvs : List (D × D)) (k : D) : Option D := (kvs.find? fun p => keq p.1 k).map (·.2)
def ixD : D → D → Option D
  | .tup xs, .int i => atI xs i
  | .lst xs, .int i => atI xs i
  | .scr ns, .int i => (atI ns i).map .int
  | .str s, .int i => if fits s then (atI s.cps.toList i).map fun c => .str ⟨#[c]⟩ else none
  | .fz kvs, .str s => dget kvs (.str s)
  | .dct false kvs, .str s => dget kvs (.str s)
  | _, _ => none
def cutD (xs : List D) (lo hi : Option Int) : List D := (xs.drop (HT.sIx xs.length 0 lo)).take (HT.sIx xs.length xs.length hi - HT.sIx xs.length 0 lo)
def slD (l h : Option Int) : D → Option D
  | .tup xs => some (.tup (cutD xs l h))
  | .lst xs => some (.lst (cutD xs l h))
  | .scr ns => some (.lst (cutD (ns.map .int) l h))
  | .str s => if fits s then some (.str (cutS s l h)) else none
  | _ => none
def revD : D → Option D
  | .tup xs => some (.tup xs.reverse)
  | .lst xs => some (.lst xs.reverse)
  | .str s => if fits s then some (.str ⟨s.cps.toList.reverse.toArray⟩) else none
  | _ => none
def blsD : List D → Option (List Bool)
  | [] => some []
  | .bl b :: r => (blsD r).map (b :: ·)
  | _ :: _ => none
def strsD : List D → Option (List Str)
  | [] => some []
  | .str s :: r => (strsD r).map (s :: ·)
  | _ :: _ => none
def charsD (s : Str) : List D := s.cps.toList.map fun c => .str ⟨#[c]⟩
def seqD : D → Option (List D)
  | .tup xs => some xs
  | .lst xs => some xs
  | _ => none
mutual
/-- data that can be shown: dicts of texts and numbers too -/
def pln : Nat → D → Bool
  | _, .non => true
  | _, .bl _ => true
  | _, .int _ => true
  | _, .str _ => true
  | 0, .tup _ => false
  | n + 1, .tup xs => plnL n xs
  | 0, .lst _ => false
  | n + 1, .lst xs => plnL n xs
  | 0, .dct _ _ => false
  | n + 1, .dct t kvs => !t && plnL n (kvs.map (·.2))
  | _, .fz _ => false
  | _, .scr _ => false
  | _, .obj _ _ => false
def plnL : Nat → List D → Bool
  | _, [] => true
  | n, x :: xs => pln n x && plnL n xs
end
def hasS (x : Str) (L : List Str) : List Str := if x ∈ L then L else L ++ [x]
def dedS (xs : List Str) : List Str := xs.foldl (fun L x => hasS x L) []
def leS (x y : Str) : Bool := decide (x.cps.toList ≤ y.cps.toList)
/-- sorted(texts) -/
def srtS (xs : List Str) : List Str := xs.mergeSort leS
def srtD : D → Option D
  | .lst xs => (strsD xs).map fun ss => .lst ((srtS ss).map .str)
  | _ => none
def sstD : D → Option D
  | .lst xs => match strsD xs with
    | some ss => if decide (ss.length + 1 < scanBound) then some (.lst ((srtS (dedS ss)).map .str)) else none
    | none => none
  | _ => none
def b1D (b : B1) (d : D) : Option D :=
  match b, d with
  | .len, d => (lenD d).map fun n => .int n
  | .abs, .int i => some (.int (if i < 0 then -i else i))
  | .int, .int i => some (.int i)
  | .int, .bl b => some (.int (if b then 1 else 0))
  | .str, .int i => if decide (i.natAbs.log2 < 1920) then some (.str (toString i)) else none
  | .all, .lst xs => (blsD xs).map fun bs => .bl (bs.all id)
  | .any, .lst xs => (blsD xs).map fun bs => .bl (bs.any id)
  | .tuple, .lst xs => some (.tup xs)
  | .tuple, .tup xs => some (.tup xs)
  | .list, .tup xs => some (.lst xs)
  | .list, .lst xs => some (.lst xs)
  | .sorted, d => srtD d
  | .sset, d => sstD d
  | .repr, d => if pln 60 d && (py d).showable && decide ((py d).shown.length ≤ sizeLine) && decide ((py d).depth ≤ 60) then some (.str (py d).shown) else none
  | _, _ => none
def b2D (b : B2) (d e : D) : Option D :=
  match b, d, e with
  | .max, .int i, .int j => some (.int (if j > i then j else i))
  | .min, .int i, .int j => some (.int (if j < i then j else i))
  | _, _, _ => none
def isiD (d : D) (t : Ty) : Option Bool :=
  match d with
  | .non => some false
  | .bl _ => some (t == .bool || t == .int)
  | .int _ => some (t == .int)
  | .str _ => some (t == .str)
  | .tup _ => some (t == .tuple)
  | .lst _ => some (t == .list)
  | .dct _ _ => some (t == .dict)
  | _ => none
def idxS : List Str → Str → Option Nat
  | [], _ => none
  | y :: ys, z => if y = z then some 0 else (idxS ys z).map (· + 1)
def idxD (xs : List D) (x : D) : Option Nat :=
  match strsD xs, x with
  | some ys, .str z => idxS ys z
  | _, _ => none
def m0D (m : Mt) (d : D) : Option D :=
  match m, d with
  | .upper, .str s => if decide (s.length ≤ 5592405) then some (.str (Txt.upper s)) else none
  | _, _ => none
def m1D (m : Mt) (d e : D) : Option D :=
  match m, d, e with
  | .split, .str a, .str b => if decide ((b.length == 0) = false) && fitn (a.length + 2) then some (.lst ((Txt.split a b).map .str)) else none
  | .join, .str a, .lst xs => match strsD xs with
    | some ys => if decide ((ys.map (·.length)).sum + ys.length * a.length ≤ 16777216) then some (.str (Txt.join a ys)) else none
    | none => none
  | .strip, .str a, .str b => if fits a then some (.str (Txt.stripChars a b)) else none
  | .index, .lst xs, e => (idxD xs e).map fun n => .int n
  | _, _, _ => none
def m2D (m : Mt) (d e f : D) : Option D := none
def mm0D (m : Mm) (d : D) : Option (D × D) :=
  match m, d with
  | .pop, .lst xs => (xs[xs.length - 1]?).map fun y => (y, .lst xs.dropLast)
  | _, _ => none
def mm1D (m : Mm) (d e : D) : Option (D × D) :=
  match m, d, e with
  | .append, .lst xs, y => if decide (xs.length < sizeLine) then some (.non, .lst (xs ++ [y])) else none
  | .extend, .lst xs, .lst ys => if fitn (xs.length + ys.length) then some (.non, .lst (xs ++ ys)) else none
  | .pop, .lst xs, .int i => match ixN xs.length i with
    | some k => if fitn xs.length then (xs[k]?).map fun y => (y, .lst (xs.eraseIdx k)) else none
    | none => none
  | _, _, _ => none
def setD (d k e : D) : Option D :=
  match d, k with
  | .lst xs, .int i => (ixN xs.length i).map fun j => .lst (xs.set j e)
  | _, _ => none
/-- d.setdefault(k, e) with a text as the key -/
def sdfD (d k e : D) : Option (D × D) :=
  match d, k with
  | .dct false kvs, .str z => if decide (kvs.length < sizeLine) then (match dget kvs (.str z) with
    | some v => some (v, .dct false kvs)
    | none => some (e, .dct false (kvs ++ [(.str z, e)]))) else none
  | _, _ => none
def okR (i : Int) : Bool := decide (-(2 ^ 62) ≤ i) && decide (i < 2 ^ 62)
def rngD (lo : Int) (n : Nat) : List D := (List.range n).map fun i => .int (lo + (i : Nat))

def tyD (T : String) (d : D) : Bool :=
  match d with
  | .str _ => decide (T = "str")
  | .lst _ => decide (T = "list")
  | _ => false
def mT : Mt → String
  | .index => "list" | _ => "str"

mutual
/-- no locked dict within -/
def noFz : D → Bool
  | .non => true
  | .bl _ => true
  | .int _ => true
  | .str _ => true
  | .tup xs => noFzL xs
  | .lst xs => noFzL xs
  | .dct _ kvs => noFzK kvs
  | .fz _ => false
  | .scr _ => true
  | .obj _ fs => noFzF fs
def noFzL : List D → Bool
  | [] => true
  | x :: xs => noFz x && noFzL xs
def noFzK : List (D × D) → Bool
  | [] => true
  | (_, v) :: r => noFz v && noFzK r
def noFzF : List (Str × D) → Bool
  | [] => true
  | (_, v) :: r => noFz v && noFzF r
end
def fzE (i : Nat) (ρ : List (Option D)) : Bool := (ρ.set i none).all fun o => match o with
  | some d => noFz d
  | none => true

/-! ### the evaluator -/
def lk (ρ : Env) (i : Nat) : Option D := (ρ[i]?).join
/-- an operand as it stands when the operation is done: a list of one's own is read then -/
def fx (e : Ex) (d : D) (ρ : Env) : Option D :=
  match e with
  | .bor i => lk ρ i
  | _ => some d
def ixO (e : Ex) (d : D) : Option (Option Int) :=
  match e, d with
  | .nop, _ => some none
  | _, .int i => some (some i)
  | _, _ => none
def setAll (ρ : Env) : List Nat → List D → Env
  | i :: is, d :: ds => setAll (ρ.set i (some d)) is ds
  | _, _ => ρ
def asgT (tg : Tg) (d : D) (ρ : Env) : Option Env :=
  match tg with
  | .nm i => some (ρ.set i (some d))
  | .tp is => match d with
    | .tup ds => if decide (ds.length = is.length) then some (setAll ρ is ds) else none
    | .lst ds => if decide (ds.length = is.length) then some (setAll ρ is ds) else none
    | _ => none
def wipeE (ρ : Env) : List Nat → Env
  | [] => ρ
  | v :: vs => (wipeE ρ vs).set v none
def backE (ρ0 ρ : Env) : List Nat → Env
  | [] => ρ
  | v :: vs => (backE ρ0 ρ vs).set v (lk ρ0 v)
def isBor : Ex → Option Nat
  | .bor i => some i
  | _ => none
def bors : Exs → List Nat
  | .nil => []
  | .cons e es => match isBor e with
    | some i => i :: bors es
    | none => bors es
/-- the arguments at the call: own ones as they stand then -/
def fxs : Exs → List D → Env → Option (List D)
  | .nil, [], _ => some []
  | .cons e es, d :: ds, ρ => match fx e d ρ, fxs es ds ρ with
    | some d', some r => some (d' :: r)
    | _, _ => none
  | _, _, _ => none
def putIo (ρ : Env) : Exs → Env → Env
  | .cons e es, o :: os => match isBor e with
    | some j => putIo (ρ.set j o) es os
    | none => putIo ρ es os
  | _, _ => ρ
def callR (cf : Nat → List D → C) (f : Nat) (es : Exs) (ds : List D) (ρ : Env) : R D :=
  match fxs es ds ρ with
  | none => .no
  | some ds' => match cf f ds' with
    | .ok d io => .ok d (putIo ρ es io)
    | .ex c fs io => .ex c fs (putIo ρ es io)
    | .no => .no
def compL (fc fe : Env → R D) (tg : Tg) (own : List Nat) : List D → Env → R (List D)
  | [], ρ => .ok [] ρ
  | d :: ds, ρ => match asgT tg d (wipeE ρ own) with
    | none => .no
    | some ρ1 => (fc ρ1).bind fun c ρ2 => match truD c with
      | none => .no
      | some true => (fe ρ2).bind fun y ρ3 => (compL fc fe tg own ds ρ3).bind fun ys ρ4 => .ok (y :: ys) ρ4
      | some false => compL fc fe tg own ds ρ2
def itD : D → Option (List D)
  | .tup xs => some xs
  | .lst xs => some xs
  | .scr ns => some (ns.map .int)
  | .str s => some (charsD s)
  | .fz kvs => some (kvs.map (·.1))
  | _ => none
def pairD (xs ys : List D) : List D := (xs.zip ys).map fun p => .tup [p.1, p.2]
def zipD (d e : D) : Option (List D) :=
  match d, e with
  | .str s, .tup ys => some (pairD (charsD s) ys)
  | .lst xs, .lst ys => some (pairD xs ys)
  | .tup xs, .tup ys => some (pairD xs ys)
  | _, _ => none
def enumD (d : D) : Option (List D) :=
  match d with
  | .lst xs => some ((xs.zipIdx).map fun p => .tup [.int p.2, p.1])
  | .tup xs => some ((xs.zipIdx).map fun p => .tup [.int p.2, p.1])
  | _ => none

section
variable (G : List D) (cf : Nat → List D → C)
mutual
def evE : Ex → Env → R D
  | .var i, ρ => ofO (lk ρ i) ρ
  | .bor i, ρ => ofO (lk ρ i) ρ
  | .non, ρ => .ok .non ρ
  | .bl b, ρ => .ok (.bl b) ρ
  | .int i, ρ => .ok (.int i) ρ
  | .str s, ρ => .ok (.str s) ρ
  | .nop, ρ => .ok .non ρ
  | .glo g, ρ => ofO G[g]? ρ
  | .tup es, ρ => (evs es ρ).bind fun ds ρ1 => if fitn ds.length then .ok (.tup ds) ρ1 else .no
  | .lst es, ρ => (evs es ρ).bind fun ds ρ1 => if fitn ds.length then .ok (.lst ds) ρ1 else .no
  | .dct t ks vs, ρ => (evs ks ρ).bind fun kd ρ1 => (evs vs ρ1).bind fun vd ρ2 => if decide (kd.length = vd.length) then .ok (.dct t (kd.zip vd)) ρ2 else .no
  | .bin o a b, ρ => (evE a ρ).bind fun d ρ1 => (evE b ρ1).bind fun e ρ2 => match fx a d ρ2, fx b e ρ2 with
    | some d', some e' => ofO (binD o d' e') ρ2
    | _, _ => .no
  | .neg a, ρ => (evE a ρ).bind fun d ρ1 => ofO (negD d) ρ1
  | .cmp o a b, ρ => (evE a ρ).bind fun d ρ1 => (evE b ρ1).bind fun e ρ2 => match fx a d ρ2, fx b e ρ2 with
    | some d', some e' => ofO (cmpD o d' e') ρ2
    | _, _ => .no
  | .chn o o' a b c, ρ => (evE a ρ).bind fun d ρ1 => (evE b ρ1).bind fun e ρ2 => match fx a d ρ2, fx b e ρ2 with
    | some d', some e' => match cmpD o d' e' with
      | some (.bl true) => (evE c ρ2).bind fun f ρ3 => match fx b e ρ3, fx c f ρ3 with
        | some e2, some f2 => ofO (cmpD o' e2 f2) ρ3
        | _, _ => .no
      | some (.bl false) => .ok (.bl false) ρ2
      | _ => .no
    | _, _ => .no
  | .nt a, ρ => (evE a ρ).bind fun d ρ1 => match fx a d ρ1 with
    | some d' => match truD d' with
      | some b => .ok (.bl (!b)) ρ1
      | none => .no
    | none => .no
  | .an a b, ρ => (evE a ρ).bind fun d ρ1 => match truD d with
    | some true => evE b ρ1
    | some false => .ok d ρ1
    | none => .no
  | .orr a b, ρ => (evE a ρ).bind fun d ρ1 => match truD d with
    | some true => .ok d ρ1
    | some false => evE b ρ1
    | none => .no
  | .ite t a b, ρ => (evE t ρ).bind fun d ρ1 => match fx t d ρ1 with
    | some d' => match truD d' with
      | some true => evE a ρ1
      | some false => evE b ρ1
      | none => .no
    | none => .no
  | .ix a b, ρ => (evE a ρ).bind fun d ρ1 => (evE b ρ1).bind fun e ρ2 => match fx a d ρ2 with
    | some d' => ofO (ixD d' e) ρ2
    | none => .no
  | .sl a lo hi, ρ => (evE a ρ).bind fun d ρ1 => ((evE lo ρ1).bind fun l r => ofO (ixO lo l) r).bind fun l ρ2 => ((evE hi ρ2).bind fun h r => ofO (ixO hi h) r).bind fun h ρ3 => match fx a d ρ3 with
    | some d' => ofO (slD l h d') ρ3
    | none => .no
  | .rev a, ρ => (evE a ρ).bind fun d ρ1 => match fx a d ρ1 with
    | some d' => ofO (revD d') ρ1
    | none => .no
  | .cal f es, ρ => (evs es ρ).bind fun ds ρ1 => callR cf f es ds ρ1
  | .b1 b a, ρ => (evE a ρ).bind fun d ρ1 => match fx a d ρ1 with
    | some d' => ofO (b1D b d') ρ1
    | none => .no
  | .b2 b a c, ρ => (evE a ρ).bind fun d ρ1 => (evE c ρ1).bind fun e ρ2 => ofO (b2D b d e) ρ2
  | .isi a t, ρ => (evE a ρ).bind fun d ρ1 => match fx a d ρ1 with
    | some d' => ofO ((isiD d' t).map .bl) ρ1
    | none => .no
  | .m0 m a, ρ => (evE a ρ).bind fun d ρ1 => ofO (m0D m d) ρ1
  | .m1 m a b, ρ => (evE a ρ).bind fun d ρ1 => if tyD (mT m) d = false then .no else (evE b ρ1).bind fun e ρ2 => match fx a d ρ2, fx b e ρ2 with
    | some d', some e' => ofO (m1D m d' e') ρ2
    | _, _ => .no
  | .m2 m a b c, ρ => (evE a ρ).bind fun d ρ1 => (evE b ρ1).bind fun e ρ2 => (evE c ρ2).bind fun f ρ3 => match fx a d ρ3 with
    | some d' => ofO (m2D m d' e f) ρ3
    | none => .no
  | .mm0 m i, ρ => match lk ρ i with
    | some d => match mm0D m d with
      | some (v, d') => .ok v (ρ.set i (some d'))
      | none => .no
    | none => .no
  | .mm1 m i a, ρ => match lk ρ i with
    | some d0 => if tyD "list" d0 = false then .no else (evE a ρ).bind fun e ρ1 => match lk ρ1 i, fx a e ρ1 with
      | some d, some e' => match mm1D m d e' with
        | some (v, d') => .ok v (ρ1.set i (some d'))
        | none => .no
      | _, _ => .no
    | none => .no
  | .cmpr e tg own it cd, ρ => (evI it ρ).bind fun ds ρ1 => match compL (fun r => evE cd r) (fun r => evE e r) tg own ds ρ1 with
    | .ok ys ρ2 => if fitn ds.length then .ok (.lst ys) (backE ρ1 ρ2 own) else .no
    | _ => .no
  | .gin g neg a, ρ => (evE a ρ).bind fun d ρ1 => match G[g]?, d with
    | some (.dct false kvs), .str s => .ok (.bl (if neg then !(dget kvs (.str s)).isSome else (dget kvs (.str s)).isSome)) ρ1
    | _, _ => .no
  | .gget g a, ρ => (evE a ρ).bind fun d ρ1 => match G[g]?, d with
    | some (.dct false kvs), .str s => ofO (dget kvs (.str s)) ρ1
    | _, _ => .no
  | .lockd i e, ρ => match lk ρ i with
    | some (.dct false kvs) => match evE e (ρ.set i (some (.fz kvs))) with
      | .ok d ρ1 => if noFz d && fzE i ρ1 then .ok d (ρ1.set i (some (.dct false kvs))) else .no
      | _ => .no
    | _ => .no
  | .sdf i a b, ρ => match lk ρ i with
    | some (.dct _ _) => (evE a ρ).bind fun k ρ1 => (evE b ρ1).bind fun e ρ2 => match lk ρ2 i with
      | some d => match sdfD d k e with
        | some (v, d') => .ok v (ρ2.set i (some d'))
        | none => .no
      | none => .no
    | _ => .no
def evs : Exs → Env → R (List D)
  | .nil, ρ => .ok [] ρ
  | .cons e es, ρ => (evE e ρ).bind fun d ρ1 => (evs es ρ1).bind fun ds ρ2 => .ok (d :: ds) ρ2
def evI : It → Env → R (List D)
  | .ex e, ρ => (evE e ρ).bind fun d ρ1 => match fx e d ρ1 with
    | some d' => ofO (itD d') ρ1
    | none => .no
  | .rng1 a, ρ => (evE a ρ).bind fun d ρ1 => match d with
    | .int i => if okR i then .ok (rngD 0 i.toNat) ρ1 else .no
    | _ => .no
  | .rng2 a b, ρ => (evE a ρ).bind fun d ρ1 => (evE b ρ1).bind fun e ρ2 => match d, e with
    | .int i, .int j => if okR i && okR j then .ok (rngD i (j - i).toNat) ρ2 else .no
    | _, _ => .no
  | .rng3 a b c, ρ => (evE a ρ).bind fun d ρ1 => (evE b ρ1).bind fun e ρ2 => (evE c ρ2).bind fun f ρ3 => match d, e, f with
    | .int i, .int j, .int k => if okR i && okR j && decide (0 < k) && decide (k < 1073741824) then .ok ((List.range (((j - i + k - 1) / k).toNat)).map fun m => .int (i + (m : Nat) * k)) ρ3 else .no
    | _, _, _ => .no
  | .zip a b, ρ => (evE a ρ).bind fun d ρ1 => (evE b ρ1).bind fun e ρ2 => match fx a d ρ2, fx b e ρ2 with
    | some d', some e' => ofO (zipD d' e') ρ2
    | _, _ => .no
  | .enum a, ρ => (evE a ρ).bind fun d ρ1 => match fx a d ρ1 with
    | some d' => ofO (enumD d') ρ1
    | none => .no
end

def R.bindS {α : Type} (r : R α) (f : α → Env → SR) : SR :=
  match r with
  | .ok a ρ => f a ρ
  | .ex c fs ρ => .ex c fs ρ
  | .no => .no
def SR.bind (r : SR) (f : Env → SR) : SR :=
  match r with
  | .nxt ρ => f ρ
  | r => r
def forL (fb : Env → SR) (tg : Tg) : List D → Env → SR
  | [], ρ => .nxt ρ
  | d :: ds, ρ => match asgT tg d ρ with
    | none => .no
    | some ρ1 => match fb ρ1 with
      | .nxt ρ2 => forL fb tg ds ρ2
      | .cnt ρ2 => forL fb tg ds ρ2
      | .brk ρ2 => .nxt ρ2
      | r => r
def whlL (fc : Env → R D) (fb : Env → SR) : Nat → Env → SR
  | 0, _ => .no
  | n + 1, ρ => (fc ρ).bindS fun c ρ1 => match truD c with
    | some true => match fb ρ1 with
      | .nxt ρ2 => whlL fc fb n ρ2
      | .cnt ρ2 => whlL fc fb n ρ2
      | .brk ρ2 => .nxt ρ2
      | r => r
    | some false => .nxt ρ1
    | none => .no
variable (wf : Nat)
mutual
def exS : Sm → Env → SR
  | .asg tg e, ρ => (evE G cf e ρ).bindS fun d ρ1 => match asgT tg d ρ1 with
    | some ρ2 => .nxt ρ2
    | none => .no
  | .own i e, ρ => (evE G cf e ρ).bindS fun d ρ1 => .nxt (ρ1.set i (some d))
  | .par is es, ρ => (evs G cf es ρ).bindS fun ds ρ1 => if decide (ds.length = is.length) then .nxt (setAll ρ1 is ds) else .no
  | .setix i k e, ρ => (evE G cf e ρ).bindS fun v ρ1 => if (lk ρ1 i).isNone then .no else (evE G cf k ρ1).bindS fun kd ρ2 => match lk ρ2 i with
    | some d => match setD d kd v with
      | some d' => .nxt (ρ2.set i (some d'))
      | none => .no
    | none => .no
  | .aug i o e, ρ => match lk ρ i with
    | some d => (evE G cf e ρ).bindS fun v ρ1 => match binD o d v with
      | some d' => .nxt (ρ1.set i (some d'))
      | none => .no
    | none => .no
  | .expr e, ρ => (evE G cf e ρ).bindS fun _ ρ1 => .nxt ρ1
  | .ite c a b, ρ => (evE G cf c ρ).bindS fun d ρ1 => match fx c d ρ1 with
    | some d' => match truD d' with
      | some true => exSs a ρ1
      | some false => exSs b ρ1
      | none => .no
    | none => .no
  | .whl c b, ρ => whlL (fun r => evE G cf c r) (fun r => exSs b r) wf ρ
  | .fr tg it b, ρ => (evI G cf it ρ).bindS fun ds ρ1 => forL (fun r => exSs b r) tg ds ρ1
  | .ret e, ρ => (evE G cf e ρ).bindS fun d ρ1 => .ret d ρ1
  | .retN, ρ => .ret .non ρ
  | .retO i, ρ => match lk ρ i with
    | some d => .ret d ρ
    | none => .no
  | .pass, ρ => .nxt ρ
  | .brk, ρ => .brk ρ
  | .cnt, ρ => .cnt ρ
def exSs : Sms → Env → SR
  | .nil, ρ => .nxt ρ
  | .cons s ss, ρ => (exS s ρ).bind fun ρ1 => exSs ss ρ1
end
end

def runF (G : List D) (cf : Nat → List D → C) (wf : Nat) (F : Fn) (ds : List D) : C :=
  if decide (ds.length = F.np) then
    match exSs G cf wf F.body (ds.map some ++ List.replicate (F.ns - F.np) none) with
    | .nxt ρ => if F.fresh then .no else .ok .non (ρ.take F.np)
    | .ret d ρ => .ok d (ρ.take F.np)
    | .ex c fs ρ => .ex c fs (ρ.take F.np)
    | _ => .no
  else .no
def callF (G : List D) (fns : List Fn) (wf : Nat) : Nat → Nat → List D → C
  | 0, _, _ => .no
  | n + 1, f, ds => match fns[f]? with
    | some F => runF G (callF G fns wf n) wf F ds
    | none => .no
end PD
end

section
set_option Elab.async false
set_option linter.all false
set_option maxRecDepth 100000
set_option maxHeartbeats 1000000
/-! PD2: the relation between the evaluator's state and the machine's; operations on data -/
namespace PD
open PySem PySem.Spec PyProof.Rows L2

/-- what is fixed in a def's body: the written part, the classes, the caller's forbidden cells, which slots are owned, the changed parameters' cells -/
structure Pr where
  K : PySem.W.Frag
  cl : Nat → Addr
  Z : Addr → Prop
  M : Nat → Bool
  io : List (Nat × Addr)
  xc : Nat → Addr
  xn : Nat → List Str
  H0 : Hp
  fresh : Bool
abbrev Pr.O (p : Pr) (Wr : Addr → Prop) : Addr → Prop := fun a => p.Z a ∨ Wr a
abbrev Pr.Rep (p : Pr) (H : Hp) (Wr : Addr → Prop) (v : V) (d : D) : Prop := PD.Rep p.K p.cl H (p.O Wr) v d
abbrev Pr.Own (p : Pr) (H : Hp) (Wr : Addr → Prop) (a : Addr) (d : D) : Prop := PD.Own p.K p.cl H (p.O Wr) a d

structure Rel (p : Pr) (ρ : Env) (σ : L2.St) (H : Hp) (Wr : Addr → Prop) : Prop where
  len : ρ.length = σ.length
  dom : ∀ a, p.O Wr a → (H a).isSome = true
  cl : ∀ i d, p.M i = false → lk ρ i = some d → ∃ v, σ[i]? = some (some v) ∧ p.Rep H Wr v d
  own : ∀ i d, p.M i = true → lk ρ i = some d → ∃ a, σ[i]? = some (some (.ref a)) ∧ Wr a ∧ p.Own H Wr a d ∧ (p.Z a → (i, a) ∈ p.io)
  inj : ∀ i j a, p.M i = true → p.M j = true → (lk ρ i).isSome = true → (lk ρ j).isSome = true → σ[i]? = some (some (.ref a)) → σ[j]? = some (some (.ref a)) → i = j
  ioz : ∀ q ∈ p.io, p.M q.1 = true ∧ (lk ρ q.1).isSome = true ∧ σ[q.1]? = some (some (.ref q.2)) ∧ p.Z q.2

/-- what may change while an expression is reckoned: owned cells -/
structure Fr (Wr : Addr → Prop) (H H' : Hp) : Prop where
  keep : ∀ a o, ¬ Wr a → H a = some o → H' a = some o
  dom : ∀ a, (H a).isSome = true → (H' a).isSome = true
theorem Fr.refl {Wr : Addr → Prop} {H : Hp} : Fr Wr H H := ⟨fun _ _ _ e => e, fun _ e => e⟩
theorem Fr.trans {Wr : Addr → Prop} {H H1 H2 : Hp} (a : Fr Wr H H1) (b : Fr Wr H1 H2) : Fr Wr H H2 :=
  ⟨fun c o n e => b.keep c o n (a.keep c o n e), fun c e => b.dom c (a.dom c e)⟩
theorem Fr.same {Wr : Addr → Prop} {H H1 : Hp} (s : Same H H1) : Fr Wr H H1 := ⟨fun c o _ e => s c o e, fun c e => by
  obtain ⟨o, q⟩ := Option.isSome_iff_exists.mp e
  rw [s c o q]; rfl⟩
theorem Rep.fr {p : Pr} {Wr : Addr → Prop} {H H' : Hp} {v : V} {d : D} (h : p.Rep H Wr v d) (f : Fr Wr H H') : p.Rep H' Wr v d :=
  h.frame (fun a o n e => f.keep a o (fun z => n (.inr z)) e) fun _ _ z => z
theorem RepA.fr {p : Pr} {Wr : Addr → Prop} {H H' : Hp} {v : List V} {d : List D} (h : RepA p.K p.cl H (p.O Wr) v d) (f : Fr Wr H H') : RepA p.K p.cl H' (p.O Wr) v d :=
  h.frame (fun a o n e => f.keep a o (fun z => n (.inr z)) e) fun _ _ z => z
theorem Rep.same {K : PySem.W.Frag} {cl : Nat → Addr} {H H' : Hp} {O : Addr → Prop} {v : V} {d : D} (h : PD.Rep K cl H O v d) (s : Same H H') : PD.Rep K cl H' O v d :=
  h.frame (fun a o _ e => s a o e) fun _ _ z => z
theorem RepA.same {K : PySem.W.Frag} {cl : Nat → Addr} {H H' : Hp} {O : Addr → Prop} {v : List V} {d : List D} (h : PD.RepA K cl H O v d) (s : Same H H') : PD.RepA K cl H' O v d :=
  h.frame (fun a o _ e => s a o e) fun _ _ z => z
theorem Own.same {K : PySem.W.Frag} {cl : Nat → Addr} {H H' : Hp} {O : Addr → Prop} {a : Addr} {d : D} (h : PD.Own K cl H O a d) (s : Same H H') : PD.Own K cl H' O a d := by
  obtain ⟨o, q⟩ := Option.isSome_iff_exists.mp h.there
  exact h.frame ((s a o q).trans q.symm) (fun a o _ e => s a o e) fun _ _ z => z
theorem Same.some {H H' : Hp} (s : Same H H') {a : Addr} (e : (H a).isSome = true) : (H' a).isSome = true := by
  obtain ⟨o, q⟩ := Option.isSome_iff_exists.mp e
  rw [s a o q]; rfl
theorem Rel.same {p : Pr} {ρ : Env} {σ : L2.St} {H H' : Hp} {Wr : Addr → Prop} (r : Rel p ρ σ H Wr) (s : Same H H') : Rel p ρ σ H' Wr where
  len := r.len
  dom := fun a h => Same.some s (r.dom a h)
  cl := fun i d m e => let ⟨v, q, h⟩ := r.cl i d m e; ⟨v, q, h.same s⟩
  own := fun i d m e => let ⟨a, q, w, h, z⟩ := r.own i d m e; ⟨a, q, w, h.same s, z⟩
  inj := r.inj
  ioz := r.ioz
theorem same_upd {H : Hp} {p : Addr} {o : HO} (h : H p = none) : Same H (upd H p o) := fun b x e => by
  rw [upd_ne (ne_of_none e h)]
  exact e

/-- a value that is read: clean, or an owned cell -/
def RepB (K : PySem.W.Frag) (cl : Nat → Addr) (H : Hp) (O : Addr → Prop) (v : V) (d : D) : Prop := PD.Rep K cl H O v d ∨ ∃ a, v = .ref a ∧ PD.Own K cl H O a d
section
variable {K : PySem.W.Frag} {cl : Nat → Addr} {H H' : Hp} {O : Addr → Prop} {v : V} {d : D} {xs : List D} {x : V}
theorem RepB.lst (h : RepB K cl H O v (.lst xs)) : ∃ a vs, v = .ref a ∧ H a = some (.lst vs) ∧ RepA K cl H O vs xs := by
  rcases h with h | ⟨a, rfl, h⟩
  · cases h with
    | lst e _ r => exact ⟨_, _, rfl, e, r⟩
  · cases h with
    | lst e r => exact ⟨_, _, rfl, e, r⟩
theorem RepB.tup (h : RepB K cl H O v (.tup xs)) : ∃ a vs, v = .ref a ∧ SqT K H a vs ∧ RepA K cl H O vs xs := by
  rcases h with h | ⟨a, rfl, h⟩
  · cases h with
    | tup e _ r => exact ⟨_, _, rfl, .inl e, r⟩
    | tupK e r => exact ⟨_, _, rfl, e.seq, r⟩
  · cases h
theorem RepB.tupRep (h : RepB K cl H O v (.tup xs)) : PD.Rep K cl H O v (.tup xs) := by
  rcases h with h | ⟨a, rfl, h⟩
  · exact h
  · cases h
theorem RepB.int {i : Int} (h : RepB K cl H O v (.int i)) : v = .int i := by
  rcases h with h | ⟨a, rfl, h⟩ <;> cases h
  rfl
theorem RepB.str {s : Str} (h : RepB K cl H O v (.str s)) : v = .str s := by
  rcases h with h | ⟨a, rfl, h⟩ <;> cases h
  rfl
theorem RepB.bl {b : Bool} (h : RepB K cl H O v (.bl b)) : v = .bl b := by
  rcases h with h | ⟨a, rfl, h⟩ <;> cases h
  rfl
theorem RepB.non (h : RepB K cl H O v .non) : v = .non := by
  rcases h with h | ⟨a, rfl, h⟩ <;> cases h
  rfl
theorem RepB.scr {ns : List Int} (h : RepB K cl H O v (.scr ns)) : ∃ a, v = .ref a ∧ SqL K H a (ns.map V.int) := by
  rcases h with h | ⟨a, rfl, h⟩
  · cases h with
    | scr e _ => exact ⟨_, rfl, .inl e⟩
    | scrK e => exact ⟨_, rfl, .inr e⟩
  · cases h
theorem RepB.dp (h : RepB K cl H O v d) (p : plain 60 d = true) : Dp K H v (py d) := by
  rcases h with h | ⟨a, rfl, h⟩
  · exact Rep.dp 60 d p h
  · cases h with
    | lst e r =>
      simp only [py]
      exact .lst (.inl (.inl e)) (RepA.dp 59 _ (by simpa [plain] using p) r)
    | dK _ _ _ => simp [plain] at p
    | dT _ _ _ => simp [plain] at p
    | obj _ _ _ => simp [plain] at p
theorem RepA.ints : ∀ (ns : List Int), RepA K cl H O (ns.map V.int) (ns.map D.int)
  | [] => .nil
  | n :: ns => .cons (.int n) (RepA.ints ns)
theorem RepA.chars (l : List Nat) : RepA K cl H O (l.map fun c => V.str ⟨#[c]⟩) (l.map fun c => D.str ⟨#[c]⟩) := by
  induction l with
  | nil => exact .nil
  | cons c l ih => exact .cons (.str _) ih
end

/-! ### operations of two operands -/
/-- an operation's rule (good r), by data: f tells the result -/
def OkOp (K : PySem.W.Frag) (cl : Nat → Addr) (good : R2 → Prop) (f : D → D → Option D) : Prop :=
  ∀ d e c, f d e = some c → ∃ r, good r ∧ ∀ (x y : V) (H : Hp) (Q : VK) (O : Addr → Prop), (∀ a, O a → (H a).isSome = true) → RepB K cl H O x d → RepB K cl H O y e →
    (∀ v H', Same H H' → PD.Rep K cl H' O v c → Q v H') → r x y H Q
section
variable {X : Cx} {cl : Nat → Addr}
theorem nodom {H : Hp} {O : Addr → Prop} (hO : ∀ a, O a → (H a).isSome = true) {q : Addr} (e : H q = none) : ¬ O q := fun z => by
  have := hO q z
  rw [e] at this
  cases this
theorem op_false {f : Value → Value → Sem Value} : OpR X f (fun _ _ _ _ => False) := fun _ _ _ _ _ _ _ _ _ _ _ _ h => h.elim
theorem op_mulX : OpR X (binaryOp .Mult) (rI (fun i j => mulOk i j = true) fun i j => .int (i * j)) := opI fun i j _ _ _ _ _ hc q => by
  refine mul_int q ?_
  have hc : mulOk i j = true := hc
  unfold mulOk at hc
  simp only [Bool.or_eq_true, Bool.and_eq_true, decide_eq_true_eq] at hc
  rcases hc with (h | h) | h
  · exact CMul.ok (.inl h)
  · exact CMul.ok (.inr h)
  · exact CMulW.ok h
def opOf : Bop → Operator
  | .add => .Add | .sub => .Sub | .mul => .Mult | .fdiv => .FloorDiv | .mod => .Mod | .pow => .Pow
theorem ok_bin (o : Bop) : OkOp X.K cl (fun r => OpR X (binaryOp (opOf o)) r) (binD o) := by
  intro d e c h
  unfold binD at h
  split at h
  · cases h
    refine ⟨_, op_add, fun x y H Q O hO rx ry q => ?_⟩
    cases rx.int; cases ry.int
    exact ⟨_, _, rfl, rfl, q _ _ (Same.refl H) (.int _)⟩
  · rename_i a b
    split at h
    · rename_i hf
      cases h
      refine ⟨_, op_add_str, fun x y H Q O hO rx ry q => ?_⟩
      cases rx.str; cases ry.str
      exact ⟨_, _, rfl, rfl, of_decide_eq_true hf, q _ _ (Same.refl H) (.str _)⟩
    · cases h
  · rename_i xs ys
    split at h
    · rename_i hf
      cases h
      have hf : xs.length + ys.length ≤ sizeLine := of_decide_eq_true hf
      refine ⟨_, op_catA, fun x y H Q O hO rx ry q => ?_⟩
      obtain ⟨a, vs, rfl, ha, qa⟩ := rx.tup
      obtain ⟨b, ws, rfl, hb, qb⟩ := ry.tup
      refine ⟨a, b, vs, ws, rfl, rfl, ha, hb, by rw [qa.length, qb.length]; exact hf, fun e => ?_, fun _ e => ?_, fun _ _ t ht => ?_⟩
      · subst e
        cases qa
        exact q _ _ (Same.refl H) ry.tupRep
      · subst e
        cases qb
        rw [List.append_nil] at q
        exact q _ _ (Same.refl H) rx.tupRep
      · have s := same_upd (o := .tup (vs ++ ws)) ht
        exact q _ _ s (.tup (.inl upd_same) (nodom hO ht) ((qa.append qb).same s))
    · cases h
  · rename_i xs ys
    split at h
    · rename_i hf
      cases h
      have hf : xs.length + ys.length ≤ sizeLine := of_decide_eq_true hf
      refine ⟨_, op_cat, fun x y H Q O hO rx ry q => ?_⟩
      obtain ⟨a, vs, rfl, ha, qa⟩ := rx.lst
      obtain ⟨b, ws, rfl, hb, qb⟩ := ry.lst
      refine ⟨a, b, vs, ws, rfl, rfl, ha, hb, by rw [qa.length, qb.length]; exact hf, fun t ht => ?_⟩
      have s := same_upd (o := .lst (vs ++ ws)) ht
      exact q _ _ s (.lst upd_same (nodom hO ht) ((qa.append qb).same s))
    · cases h
  · cases h
    refine ⟨_, op_sub, fun x y H Q O hO rx ry q => ?_⟩
    cases rx.int; cases ry.int
    exact ⟨_, _, rfl, rfl, q _ _ (Same.refl H) (.int _)⟩
  · split at h
    · rename_i hf
      cases h
      refine ⟨_, op_mulX, fun x y H Q O hO rx ry q => ?_⟩
      cases rx.int; cases ry.int
      exact ⟨_, _, rfl, rfl, hf, q _ _ (Same.refl H) (.int _)⟩
    · cases h
  · split at h
    · rename_i hf
      cases h
      simp only [Bool.and_eq_true, decide_eq_true_eq] at hf
      refine ⟨_, op_fdivW, fun x y H Q O hO rx ry q => ?_⟩
      cases rx.int; cases ry.int
      exact ⟨_, _, rfl, rfl, hf, q _ _ (Same.refl H) (.int _)⟩
    · cases h
  · split at h
    · rename_i hf
      cases h
      refine ⟨_, op_mod, fun x y H Q O hO rx ry q => ?_⟩
      cases rx.int; cases ry.int
      exact ⟨_, _, rfl, rfl, of_decide_eq_true hf, q _ _ (Same.refl H) (.int _)⟩
    · cases h
  · split at h
    · rename_i hf
      cases h
      simp only [Bool.and_eq_true, decide_eq_true_eq] at hf
      refine ⟨_, op_pow, fun x y H Q O hO rx ry q => ?_⟩
      cases rx.int; cases ry.int
      exact ⟨_, _, rfl, rfl, ⟨hf.1.1, hf.1.2, hf.2⟩, q _ _ (Same.refl H) (.int _)⟩
    · cases h
  · cases h

theorem op_eqP (hu : X.A.units + 64 < cLine) : OpR X (compareOp .Eq) (fun x y H Q => ∃ d e, Dp X.K H x d ∧ Dp X.K H y e ∧ d.plain = true ∧ e.plain = true ∧ d.depth ≤ 60 ∧ Q (.bl (PyData.eqv d e)) H) := by
  intro pins s σ H x y v u Q I rx ry h
  obtain ⟨d, e, hd, he, pd, pe, dd, q⟩ := h
  obtain ⟨as, r1⟩ := Dp.reads I d x v hd rx
  obtain ⟨bs, r2⟩ := Dp.reads I e y u he ry
  exact SeqAt.eq_plain r1 r2 pd pe (by omega) ⟨.bl _, H, I, rfl, q⟩
theorem op_neP (hu : X.A.units + 64 < cLine) : OpR X (compareOp .NotEq) (fun x y H Q => ∃ d e, Dp X.K H x d ∧ Dp X.K H y e ∧ d.plain = true ∧ e.plain = true ∧ d.depth ≤ 60 ∧ Q (.bl (!PyData.eqv d e)) H) := by
  intro pins s σ H x y v u Q I rx ry h
  obtain ⟨d, e, hd, he, pd, pe, dd, q⟩ := h
  obtain ⟨as, r1⟩ := Dp.reads I d x v hd rx
  obtain ⟨bs, r2⟩ := Dp.reads I e y u he ry
  exact SeqAt.ne_plain r1 r2 pd pe (by omega) ⟨.bl _, H, I, rfl, q⟩
theorem nil_no {xs ys : List V} {i1 i2 : List Value} (l1 : xs.length = i1.length) (l2 : ys.length = i2.length) (he : xs = [] ∨ ys = []) (j : Nat) (h1 : j < i1.length) (h2 : j < i2.length) : False := by
  rcases he with e | e
  · rw [e, List.length_nil] at l1; omega
  · rw [e, List.length_nil] at l2; omega
theorem nil_eq {xs ys : List V} {i1 i2 : List Value} (l1 : xs.length = i1.length) (l2 : ys.length = i2.length) (he : xs = [] ∨ ys = []) :
    ((List.range (min i1.toArray.size i2.toArray.size)).all (fun _ => true) && i1.toArray.size == i2.toArray.size) = (xs.isEmpty && ys.isEmpty) := by
  rw [List.all_eq_true.mpr (fun _ _ => rfl), Bool.true_and, List.size_toArray, List.size_toArray, ← l1, ← l2]
  rcases he with e | e
  · subst e; cases ys <;> simp
  · subst e; cases xs <;> simp
/-- a tuple against the empty one, whatever is in it -/
theorem op_eqE (hu : X.A.units + 64 < cLine) : OpR X (compareOp .Eq) (fun x y H Q => ∃ a b xs ys, x = .ref a ∧ y = .ref b ∧ SqT X.K H a xs ∧ SqT X.K H b ys ∧ (xs = [] ∨ ys = []) ∧ Q (.bl (xs.isEmpty && ys.isEmpty)) H) := by
  intro pins s σ H x y v u Q I rx ry h
  obtain ⟨a, b, xs, ys, rfl, rfl, ha, hb, he, q⟩ := h
  cases rx; cases ry
  obtain ⟨i1, r1, p1, _⟩ := I.tuple ha
  obtain ⟨i2, r2, p2, _⟩ := I.tuple hb
  have l1 := r1.length
  have l2 := r2.length
  refine SeqAt.eq_tupleAt (e := fun _ => true) p1 p2 (by omega) (fun j h1 h2 => ?_) ⟨.bl _, H, I, rfl, ?_⟩
  · exact (nil_no l1 l2 he j (by simpa using h1) (by simpa using h2)).elim
  · rw [nil_eq l1 l2 he]
    exact q
theorem op_neE (hu : X.A.units + 64 < cLine) : OpR X (compareOp .NotEq) (fun x y H Q => ∃ a b xs ys, x = .ref a ∧ y = .ref b ∧ SqT X.K H a xs ∧ SqT X.K H b ys ∧ (xs = [] ∨ ys = []) ∧ Q (.bl (!(xs.isEmpty && ys.isEmpty))) H) := by
  intro pins s σ H x y v u Q I rx ry h
  obtain ⟨a, b, xs, ys, rfl, rfl, ha, hb, he, q⟩ := h
  cases rx; cases ry
  obtain ⟨i1, r1, p1, _⟩ := I.tuple ha
  obtain ⟨i2, r2, p2, _⟩ := I.tuple hb
  have l1 := r1.length
  have l2 := r2.length
  have := SeqAt.RcNeAt.tuples (A := X.A) (e := fun _ => true) p1 p2 (by omega) (fun j h1 h2 => (nil_no l1 l2 he j (by simpa using h1) (by simpa using h2)).elim)
  refine this X.prog X.w X.xe _ ⟨.bl _, H, I, rfl, ?_⟩
  rw [nil_eq l1 l2 he]
  exact q
theorem op_eqN (hu : X.A.units + 64 < cLine) : OpR X (compareOp .Eq) (fun x y H Q => ∃ a b xs, x = .ref a ∧ y = .ref b ∧ H a = some (.lst xs) ∧ H b = some (.lst []) ∧ Q (.bl xs.isEmpty) H) := by
  intro pins s σ H x y v u Q I rx ry h
  obtain ⟨a, b, xs, rfl, rfl, ha, hb, q⟩ := h
  cases rx; cases ry
  obtain ⟨i1, r1, p1, _⟩ := I.list (SqL.of ha)
  obtain ⟨i2, r2, p2, _⟩ := I.list (SqL.of hb)
  have l1 := r1.length
  have l2 := r2.length
  cases xs with
  | nil =>
    refine SeqAt.eq_listAt (e := fun _ => true) p1.isList p2.isList (by rw [List.length_nil] at l2; first | (rw [List.length_nil] at l1; simp; omega) | (rw [List.length_cons] at l1; simp; omega)) (by omega) (fun j h1 h2 => ?_) ⟨.bl _, H, I, rfl, ?_⟩
    · exact (nil_no l1 l2 (.inl rfl) j (by simpa using h1) (by simpa using h2)).elim
    · have : (List.range i1.toArray.size).all (fun _ => true) = true := by simp
      rw [this]; exact q
  | cons z zs =>
    refine SeqAt.eq_list_lengthsAt p1.isList p2.isList (by rw [List.length_nil] at l2; first | (rw [List.length_nil] at l1; simp; omega) | (rw [List.length_cons] at l1; simp; omega)) (by omega) ⟨.bl _, H, I, rfl, q⟩
theorem op_neN (hu : X.A.units + 64 < cLine) : OpR X (compareOp .NotEq) (fun x y H Q => ∃ a b xs, x = .ref a ∧ y = .ref b ∧ H a = some (.lst xs) ∧ H b = some (.lst []) ∧ Q (.bl (!xs.isEmpty)) H) := by
  intro pins s σ H x y v u Q I rx ry h
  obtain ⟨a, b, xs, rfl, rfl, ha, hb, q⟩ := h
  cases rx; cases ry
  obtain ⟨i1, r1, p1, _⟩ := I.list (SqL.of ha)
  obtain ⟨i2, r2, p2, _⟩ := I.list (SqL.of hb)
  have l1 := r1.length
  have l2 := r2.length
  cases xs with
  | nil =>
    have := SeqAt.RcNeAt.lists (A := X.A) (e := fun _ => true) p1.isList p2.isList (by rw [List.length_nil] at l2; first | (rw [List.length_nil] at l1; simp; omega) | (rw [List.length_cons] at l1; simp; omega)) (by omega) (fun j h1 h2 => (nil_no l1 l2 (.inl rfl) j (by simpa using h1) (by simpa using h2)).elim)
    refine this X.prog X.w X.xe _ ⟨.bl _, H, I, rfl, ?_⟩
    have : (List.range i1.toArray.size).all (fun _ => true) = true := by simp
    rw [this]; exact q
  | cons z zs =>
    have := SeqAt.RcNeAt.lists_lengths (A := X.A) p1.isList p2.isList (by rw [List.length_nil] at l2; first | (rw [List.length_nil] at l1; simp; omega) | (rw [List.length_cons] at l1; simp; omega)) (by omega)
    exact this X.prog X.w X.xe _ ⟨.bl _, H, I, rfl, q⟩
theorem op_inP (hu : X.A.units + 70 < cLine) : OpR X (compareOp .In) (fun x y H Q => ∃ d ds, Dp X.K H x d ∧ (Dp X.K H y (.list ds) ∨ Dp X.K H y (.tuple ds)) ∧ d.plain = true ∧ PyData.plainAll ds = true ∧ d.depth ≤ 60 ∧ Q (.bl (ds.any fun z => PyData.eqv z d)) H) := by
  intro pins s σ H x y v u Q I rx ry h
  obtain ⟨d, ds, hd, he, pd, pe, dd, q⟩ := h
  obtain ⟨as, r1⟩ := Dp.reads I d x v hd rx
  rcases he with he | he
  · obtain ⟨bs, r2⟩ := Dp.reads I _ y u he ry
    exact SeqAt.in_list_data r2 r1 pe pd (by omega) ⟨.bl _, H, I, rfl, q⟩
  · obtain ⟨bs, r2⟩ := Dp.reads I _ y u he ry
    exact SeqAt.in_tuple_data r2 r1 pe pd (by omega) ⟨.bl _, H, I, rfl, q⟩
theorem op_ninP (hu : X.A.units + 70 < cLine) : OpR X (compareOp .NotIn) (fun x y H Q => ∃ d ds, Dp X.K H x d ∧ (Dp X.K H y (.list ds) ∨ Dp X.K H y (.tuple ds)) ∧ d.plain = true ∧ PyData.plainAll ds = true ∧ d.depth ≤ 60 ∧ Q (.bl (!ds.any fun z => PyData.eqv z d)) H) := by
  intro pins s σ H x y v u Q I rx ry h
  obtain ⟨d, ds, hd, he, pd, pe, dd, q⟩ := h
  obtain ⟨as, r1⟩ := Dp.reads I d x v hd rx
  rcases he with he | he
  · obtain ⟨bs, r2⟩ := Dp.reads I _ y u he ry
    exact SeqAt.notIn_list_data r2 r1 pe pd (by omega) ⟨.bl _, H, I, rfl, q⟩
  · obtain ⟨bs, r2⟩ := Dp.reads I _ y u he ry
    exact SeqAt.notIn_tuple_data r2 r1 pe pd (by omega) ⟨.bl _, H, I, rfl, q⟩

def copOf : Cop → CmpOp
  | .eq => .Eq | .ne => .NotEq | .lt => .Lt | .le => .LtE | .gt => .Gt | .ge => .GtE | .isin => .In | .nin => .NotIn | .is => .Is | .isn => .IsNot
theorem OkOp.imp {good : R2 → Prop} {f : D → D → Option D} {d e c : D} (r : R2) (g : good r)
    (h : ∀ (x y : V) (H : Hp) (Q : VK) (O : Addr → Prop), (∀ a, O a → (H a).isSome = true) → RepB X.K cl H O x d → RepB X.K cl H O y e → (∀ v H', Same H H' → PD.Rep X.K cl H' O v c → Q v H') → r x y H Q) :
    ∃ r, good r ∧ ∀ (x y : V) (H : Hp) (Q : VK) (O : Addr → Prop), (∀ a, O a → (H a).isSome = true) → RepB X.K cl H O x d → RepB X.K cl H O y e →
    (∀ v H', Same H H' → PD.Rep X.K cl H' O v c → Q v H') → r x y H Q := ⟨r, g, h⟩
theorem plain60 {d : D} (p : plain 60 d = true) : (py d).plain = true ∧ (py d).depth ≤ 60 := plain_py 60 d p
/-- == and != -/
theorem ok_eq (hu : X.A.units + 64 < cLine) {d e : D} {b : Bool} (h : eqD d e = some b) :
    (∃ r, OpR X (compareOp .Eq) r ∧ ∀ (x y : V) (H : Hp) (Q : VK) (O : Addr → Prop), RepB X.K cl H O x d → RepB X.K cl H O y e → Q (.bl b) H → r x y H Q) ∧
    (∃ r, OpR X (compareOp .NotEq) r ∧ ∀ (x y : V) (H : Hp) (Q : VK) (O : Addr → Prop), RepB X.K cl H O x d → RepB X.K cl H O y e → Q (.bl (!b)) H → r x y H Q) := by
  unfold eqD at h
  split at h
  · cases h
    rename_i a b
    have e : decide (V.str a = V.str b) = decide (a = b) := by by_cases z : a = b <;> simp [z]
    refine ⟨⟨_, op_eq, fun x y H Q O rx ry q => ?_⟩, ⟨_, op_ne, fun x y H Q O rx ry q => ?_⟩⟩ <;> (cases rx.str; cases ry.str; exact ⟨rfl, by rw [e]; exact q⟩)
  · cases h
    rename_i a b
    have e : decide (V.int a = V.int b) = decide (a = b) := by by_cases z : a = b <;> simp [z]
    refine ⟨⟨_, op_eq, fun x y H Q O rx ry q => ?_⟩, ⟨_, op_ne, fun x y H Q O rx ry q => ?_⟩⟩ <;> (cases rx.int; cases ry.int; exact ⟨rfl, by rw [e]; exact q⟩)
  · cases h
    rename_i ys
    refine ⟨⟨_, op_eqE hu, fun x y H Q O rx ry q => ?_⟩, ⟨_, op_neE hu, fun x y H Q O rx ry q => ?_⟩⟩ <;>
    · obtain ⟨a, vs, rfl, ha, qa⟩ := rx.tup
      obtain ⟨b, ws, rfl, hb, qb⟩ := ry.tup
      cases qa
      have e : ws.isEmpty = ys.isEmpty := by cases qb <;> rfl
      exact ⟨a, b, [], ws, rfl, rfl, ha, hb, .inl rfl, by rw [e]; exact q⟩
  · cases h
    rename_i xs _
    refine ⟨⟨_, op_eqE hu, fun x y H Q O rx ry q => ?_⟩, ⟨_, op_neE hu, fun x y H Q O rx ry q => ?_⟩⟩ <;>
    · obtain ⟨a, vs, rfl, ha, qa⟩ := rx.tup
      obtain ⟨b, ws, rfl, hb, qb⟩ := ry.tup
      cases qb
      have e : vs.isEmpty = xs.isEmpty := by cases qa <;> rfl
      exact ⟨a, b, vs, [], rfl, rfl, ha, hb, .inr rfl, by rw [e]; simpa using q⟩
  · cases h
    rename_i xs
    refine ⟨⟨_, op_eqN hu, fun x y H Q O rx ry q => ?_⟩, ⟨_, op_neN hu, fun x y H Q O rx ry q => ?_⟩⟩ <;>
    · obtain ⟨a, vs, rfl, ha, qa⟩ := rx.lst
      obtain ⟨b, ws, rfl, hb, qb⟩ := ry.lst
      cases qb
      have e : vs.isEmpty = xs.isEmpty := by cases qa <;> rfl
      exact ⟨a, b, vs, rfl, rfl, ha, hb, by rw [e]; exact q⟩
  · split at h
    · rename_i hp
      cases h
      rw [Bool.and_eq_true] at hp
      have p1 := plain60 hp.1
      have p2 := plain60 hp.2
      exact ⟨⟨_, op_eqP hu, fun x y H Q O rx ry q => ⟨_, _, rx.dp hp.1, ry.dp hp.2, p1.1, p2.1, p1.2, q⟩⟩, ⟨_, op_neP hu, fun x y H Q O rx ry q => ⟨_, _, rx.dp hp.1, ry.dp hp.2, p1.1, p2.1, p1.2, q⟩⟩⟩
    · cases h
theorem any_py (xs : List D) (x : D) : ((pyL xs).any fun z => PyData.eqv z (py x)) = xs.any fun z => PyData.eqv (py z) (py x) := by
  rw [pyL_map, List.any_map]; rfl
theorem RepB.dpL {xs : List D} {K : PySem.W.Frag} {H : Hp} {O : Addr → Prop} {v : V} (h : RepB K cl H O v (.lst xs)) (p : plainL 59 xs = true) : Dp K H v (.list (pyL xs)) := by
  have := h.dp (by simpa [plain] using p)
  simpa [py] using this
theorem RepB.dpT {xs : List D} {K : PySem.W.Frag} {H : Hp} {O : Addr → Prop} {v : V} (h : RepB K cl H O v (.tup xs)) (p : plainL 59 xs = true) : Dp K H v (.tuple (pyL xs)) := by
  have := h.dp (by simpa [plain] using p)
  simpa [py] using this
theorem ok_in (hu : X.A.units + 70 < cLine) {d e : D} {b : Bool} (h : inD d e = some b) :
    (∃ r, OpR X (compareOp .In) r ∧ ∀ (x y : V) (H : Hp) (Q : VK) (O : Addr → Prop), RepB X.K cl H O x d → RepB X.K cl H O y e → Q (.bl b) H → r x y H Q) ∧
    (∃ r, OpR X (compareOp .NotIn) r ∧ ∀ (x y : V) (H : Hp) (Q : VK) (O : Addr → Prop), RepB X.K cl H O x d → RepB X.K cl H O y e → Q (.bl (!b)) H → r x y H Q) := by
  unfold inD at h
  split at h
  · cases h
    refine ⟨⟨_, op_in_str, fun x y H Q O rx ry q => ?_⟩, ⟨_, op_notin_str, fun x y H Q O rx ry q => ?_⟩⟩ <;> (cases rx.str; cases ry.str; exact ⟨_, _, rfl, rfl, q⟩)
  · split at h
    · rename_i hp
      cases h
      rw [Bool.and_eq_true] at hp
      have p1 := plain60 hp.1
      have p2 := plainL_py 59 _ hp.2
      refine ⟨⟨_, op_inP hu, fun x y H Q O rx ry q => ?_⟩, ⟨_, op_ninP hu, fun x y H Q O rx ry q => ?_⟩⟩ <;>
        exact ⟨_, _, rx.dp hp.1, .inl (ry.dpL hp.2), p1.1, p2.1, p1.2, by rw [any_py]; exact q⟩
    · cases h
  · split at h
    · rename_i hp
      cases h
      rw [Bool.and_eq_true] at hp
      have p1 := plain60 hp.1
      have p2 := plainL_py 59 _ hp.2
      refine ⟨⟨_, op_inP hu, fun x y H Q O rx ry q => ?_⟩, ⟨_, op_ninP hu, fun x y H Q O rx ry q => ?_⟩⟩ <;>
        exact ⟨_, _, rx.dp hp.1, .inr (ry.dpT hp.2), p1.1, p2.1, p1.2, by rw [any_py]; exact q⟩
    · cases h
  · cases h
theorem isnon_v {d : D} {x : V} {H : Hp} {O : Addr → Prop} (rx : RepB X.K cl H O x d) : decide (x = .non) = isNonD d := by
  rcases rx with h | ⟨a, rfl, h⟩
  · cases h <;> simp [isNonD]
  · cases h <;> simp [isNonD]
theorem ok_cmp (hu : X.A.units + 70 < cLine) (o : Cop) : OkOp X.K cl (fun r => OpR X (compareOp (copOf o)) r) (cmpD o) := by
  intro d e c h
  cases o <;> simp only [cmpD] at h
  case eq =>
    cases h1 : eqD d e with
    | none => rw [h1] at h; cases h
    | some b =>
      rw [h1] at h; cases h
      obtain ⟨⟨r, g, k⟩, _⟩ := ok_eq (X := X) (cl := cl) (by omega) h1
      exact ⟨r, g, fun x y H Q O _ rx ry q => k x y H Q O rx ry (q _ _ (Same.refl H) (.bl _))⟩
  case ne =>
    cases h1 : eqD d e with
    | none => rw [h1] at h; cases h
    | some b =>
      rw [h1] at h; cases h
      obtain ⟨_, ⟨r, g, k⟩⟩ := ok_eq (X := X) (cl := cl) (by omega) h1
      exact ⟨r, g, fun x y H Q O _ rx ry q => k x y H Q O rx ry (q _ _ (Same.refl H) (.bl _))⟩
  case isin =>
    cases h1 : inD d e with
    | none => rw [h1] at h; cases h
    | some b =>
      rw [h1] at h; cases h
      obtain ⟨⟨r, g, k⟩, _⟩ := ok_in (cl := cl) hu h1
      exact ⟨r, g, fun x y H Q O _ rx ry q => k x y H Q O rx ry (q _ _ (Same.refl H) (.bl _))⟩
  case nin =>
    cases h1 : inD d e with
    | none => rw [h1] at h; cases h
    | some b =>
      rw [h1] at h; cases h
      obtain ⟨_, ⟨r, g, k⟩⟩ := ok_in (cl := cl) hu h1
      exact ⟨r, g, fun x y H Q O _ rx ry q => k x y H Q O rx ry (q _ _ (Same.refl H) (.bl _))⟩
  case is =>
    split at h
    · cases h
      refine ⟨_, op_isN, fun x y H Q O _ rx ry q => ⟨ry.non, ?_⟩⟩
      rw [isnon_v rx]
      exact q _ _ (Same.refl H) (.bl _)
    · cases h
  case isn =>
    split at h
    · cases h
      refine ⟨_, op_notN, fun x y H Q O _ rx ry q => ⟨ry.non, ?_⟩⟩
      rw [isnon_v rx]
      exact q _ _ (Same.refl H) (.bl _)
    · cases h
  case lt =>
    split at h
    · cases h
      refine ⟨_, op_lt, fun x y H Q O hO rx ry q => ?_⟩
      cases rx.int; cases ry.int
      exact ⟨_, _, rfl, rfl, q _ _ (Same.refl H) (.bl _)⟩
    · cases h
  case le =>
    split at h
    · cases h
      refine ⟨_, op_le, fun x y H Q O hO rx ry q => ?_⟩
      cases rx.int; cases ry.int
      exact ⟨_, _, rfl, rfl, q _ _ (Same.refl H) (.bl _)⟩
    · cases h
  case gt =>
    split at h
    · cases h
      refine ⟨_, op_gt, fun x y H Q O hO rx ry q => ?_⟩
      cases rx.int; cases ry.int
      exact ⟨_, _, rfl, rfl, q _ _ (Same.refl H) (.bl _)⟩
    · cases h
  case ge =>
    split at h
    · cases h
      refine ⟨_, op_ge, fun x y H Q O hO rx ry q => ?_⟩
      cases rx.int; cases ry.int
      exact ⟨_, _, rfl, rfl, q _ _ (Same.refl H) (.bl _)⟩
    · cases h
end
end PD
end

section
set_option Elab.async false
set_option linter.all false
set_option maxRecDepth 100000
set_option maxHeartbeats 1000000
/-! PD3: expressions -/
namespace PD
open PySem PySem.Spec PyProof.Rows L2

/-- the value of an operand: clean, or what the own slot holds -/
def Val (p : Pr) (e : Ex) (σ : L2.St) (H : Hp) (Wr : Addr → Prop) (v : V) (d : D) : Prop :=
  match isBor e with
  | some i => p.M i = true ∧ σ[i]? = some (some v)
  | none => p.Rep H Wr v d
def XRep (p : Pr) (H : Hp) (Wr : Addr → Prop) (dx : Option Addr) (c : Nat) (fs : List D) : Prop :=
  (fs = [] ∧ p.xn c = [] ∧ dx = none) ∨ ∃ a fv, dx = some a ∧ H a = some (.xd fv) ∧ ¬ p.O Wr a ∧ fv.map (·.1) = p.xn c ∧ RepA p.K p.cl H (p.O Wr) (fv.map (·.2)) fs
def tK (p : Pr) (W : WX) (e : Ex) (Wr : Addr → Prop) (σ : L2.St) (H : Hp) (r : R D) (Q : VK) : Prop :=
  match r with
  | .ok d ρ1 => ∀ v H1, Rel p ρ1 σ H1 Wr → Fr Wr H H1 → Val p e σ H1 Wr v d → Q v H1
  | .ex c fs ρ1 => ∀ dx H1, Rel p ρ1 σ H1 Wr → Fr Wr H H1 → XRep p H1 Wr dx c fs → W (.ref (p.xc c)) dx σ H1
  | .no => False
def tE (p : Pr) (W : WX) (e : Ex) (ρ : Env) (r : R D) : TE := fun σ H Q => ∃ Wr, Rel p ρ σ H Wr ∧ tK p W e Wr σ H r Q
theorem tK.step {p : Pr} {W : WX} {e : Ex} {Wr : Addr → Prop} {σ : L2.St} {H H1 : Hp} {r : R D} {Q : VK} (h : tK p W e Wr σ H r Q) (f : Fr Wr H H1) : tK p W e Wr σ H1 r Q := by
  cases r with
  | ok d ρ1 => exact fun v H2 r g k => h v H2 r (f.trans g) k
  | ex c fs ρ1 => exact fun v H2 r g k => h v H2 r (f.trans g) k
  | no => exact h

theorem pe_imp {X : Cx} {x : Expr} {t t' : TE} (h : PE X x t) (i : ∀ σ H Q, t' σ H Q → t σ H Q) : PE X x t' := ⟨fun pins s σ H Q I q => h.run pins s σ H Q I (i σ H Q q)⟩
theorem pe_void {X : Cx} {x : Expr} {t : TE} (i : ∀ σ H Q, ¬ t σ H Q) : PE X x t := ⟨fun pins s σ H Q I q => (i σ H Q q).elim⟩
section
variable {p : Pr} {W : WX} {X : Cx} {G : List D} {cf : Nat → List D → C}
theorem pe_no {x : Expr} {e : Ex} {ρ : Env} : PE X x (tE p W e ρ .no) := pe_void fun σ H Q h => by
  obtain ⟨Wr, _, h⟩ := h
  exact h
variable (p W X G cf) in
def SE (e : Ex) (x : Expr) : Prop := ∀ ρ, PE X x (tE p W e ρ (evE G cf e ρ))

/-- an operand read when the operation is done -/
theorem Val.at {e : Ex} {σ : L2.St} {H H2 : Hp} {Wr : Addr → Prop} {v : V} {d d' : D} {ρ2 : Env} (h : Val p e σ H Wr v d) (r : Rel p ρ2 σ H2 Wr) (f : Fr Wr H H2) (q : fx e d ρ2 = some d') :
    RepB p.K p.cl H2 (p.O Wr) v d' := by
  unfold Val at h
  unfold fx at q
  cases e with
  | bor i =>
    obtain ⟨m, hs⟩ : p.M i = true ∧ σ[i]? = some (some v) := h
    obtain ⟨a, e1, _, o, _⟩ := r.own i d' m q
    rw [hs] at e1
    cases e1
    exact .inr ⟨a, rfl, o⟩
  | _ =>
    cases q
    exact .inl (Rep.fr (p := p) h f)
theorem Val.rep {e : Ex} {σ : L2.St} {H : Hp} {Wr : Addr → Prop} {v : V} {d : D} (h : Val p e σ H Wr v d) (n : isBor e = none) : p.Rep H Wr v d := by
  unfold Val at h
  rw [n] at h
  exact h
theorem Val.of {e : Ex} {σ : L2.St} {H : Hp} {Wr : Addr → Prop} {v : V} {d : D} (h : p.Rep H Wr v d) (n : isBor e = none) : Val p e σ H Wr v d := by
  unfold Val
  rw [n]
  exact h
theorem fx_clean {e : Ex} (n : isBor e = none) (d : D) (ρ : Env) : fx e d ρ = some d := by
  cases e <;> first | rfl | cases n
/-- the end of an operation: nothing but new objects -/
theorem fin_ok {e : Ex} {σ : L2.St} {H : Hp} {Wr : Addr → Prop} {ρ : Env} {Q : VK} {c : D} {o : Option D} (r : Rel p ρ σ H Wr) (h : tK p W e Wr σ H (ofO o ρ) Q) (ho : o = some c) (n : isBor e = none) :
    ∀ v H', Same H H' → PD.Rep p.K p.cl H' (p.O Wr) v c → Q v H' := by
  subst ho
  exact fun v H' s k => h v H' (r.same s) (Fr.same s) (Val.of (p := p) k n)
theorem fin_no {e : Ex} {σ : L2.St} {H : Hp} {Wr : Addr → Prop} {ρ : Env} {Q : VK} {o : Option D} (h : tK p W e Wr σ H (ofO o ρ) Q) (ho : o = none) : False := by
  subst ho
  exact h

theorem two {good : R2 → Prop} {x xa xb : Expr} {a b e0 : Ex} (mk : ∀ r ta tb, good r → PE X xa ta → PE X xb tb → PE X x (tOp r ta tb)) (g0 : good (fun _ _ _ _ => False)) (f : D → D → Option D) (ok : OkOp p.K p.cl good f)
    (ha : SE p W X G cf a xa) (hb : SE p W X G cf b xb) (n : isBor e0 = none) (ρ : Env) :
    PE X x (tE p W e0 ρ ((evE G cf a ρ).bind fun d ρ1 => (evE G cf b ρ1).bind fun e ρ2 => match fx a d ρ2, fx b e ρ2 with
      | some d', some e' => ofO (f d' e') ρ2
      | _, _ => .no)) := by
  have pa := ha ρ
  cases ea : evE G cf a ρ with
  | no => exact pe_no
  | ex c fs ρ1 =>
    rw [ea] at pa
    exact pe_imp (mk _ _ _ g0 pa (pe_void (t := fun _ _ _ => False) fun _ _ _ z => z)) fun σ H Q h => h
  | ok d ρ1 =>
    rw [ea] at pa
    have pb := hb ρ1
    cases eb : evE G cf b ρ1 with
    | no => simp only [R.bind, eb]; exact pe_no
    | ex c fs ρ2 =>
      rw [eb] at pb
      refine pe_imp (mk _ _ _ g0 pa pb) fun σ H Q h => ?_
      simp only [R.bind, eb] at h
      obtain ⟨Wr, r, k⟩ := h
      exact ⟨Wr, r, fun v H1 r1 f1 _ => ⟨Wr, r1, k.step f1⟩⟩
    | ok e ρ2 =>
      rw [eb] at pb
      simp only [R.bind, eb]
      cases e1 : fx a d ρ2 with
      | none => exact pe_no
      | some d' =>
        cases e2 : fx b e ρ2 with
        | none => exact pe_no
        | some e' =>
          cases e3 : f d' e' with
          | none => simp only [e3, ofO]; exact pe_no
          | some c =>
            obtain ⟨r, g, k⟩ := ok d' e' c e3
            refine pe_imp (mk r _ _ g pa pb) fun σ H Q h => ?_
            obtain ⟨Wr, rl, q⟩ := h
            refine ⟨Wr, rl, fun v H1 r1 f1 w1 => ⟨Wr, r1, fun u H2 r2 f2 w2 => ?_⟩⟩
            exact k v u H2 Q (p.O Wr) r2.dom (w1.at r2 f2 e1) (w2.at r2 Fr.refl e2) (fin_ok r2 ((q.step f1).step f2) e3 n)

/-! ### one operand -/
def OkU (K : PySem.W.Frag) (cl : Nat → Addr) (good : (V → Hp → VK → Prop) → Prop) (f : D → Option D) : Prop :=
  ∀ d c, f d = some c → ∃ r, good r ∧ ∀ (x : V) (H : Hp) (Q : VK) (O : Addr → Prop), (∀ a, O a → (H a).isSome = true) → RepB K cl H O x d →
    (∀ v H', Same H H' → PD.Rep K cl H' O v c → Q v H') → r x H Q
theorem one {good : (V → Hp → VK → Prop) → Prop} {x xa : Expr} {a e0 : Ex} (mk : ∀ r ta, good r → PE X xa ta → PE X x (tUn r ta)) (g0 : good (fun _ _ _ => False)) (f : D → Option D) (ok : OkU p.K p.cl good f)
    (ha : SE p W X G cf a xa) (n : isBor e0 = none) (ρ : Env) :
    PE X x (tE p W e0 ρ ((evE G cf a ρ).bind fun d ρ1 => match fx a d ρ1 with
      | some d' => ofO (f d') ρ1
      | none => .no)) := by
  have pa := ha ρ
  cases ea : evE G cf a ρ with
  | no => exact pe_no
  | ex c fs ρ1 =>
    rw [ea] at pa
    exact pe_imp (mk _ _ g0 pa) fun σ H Q h => h
  | ok d ρ1 =>
    rw [ea] at pa
    simp only [R.bind]
    cases e1 : fx a d ρ1 with
    | none => exact pe_no
    | some d' =>
      cases e3 : f d' with
      | none => simp only [e3, ofO]; exact pe_no
      | some c =>
        obtain ⟨r, g, k⟩ := ok d' c e3
        refine pe_imp (mk r _ g pa) fun σ H Q h => ?_
        obtain ⟨Wr, rl, q⟩ := h
        exact ⟨Wr, rl, fun v H1 r1 f1 w1 => k v H1 Q (p.O Wr) r1.dom (w1.at r1 Fr.refl e1) (fin_ok r1 (q.step f1) e3 n)⟩
/-- an operand that is clean -/
theorem one' {good : (V → Hp → VK → Prop) → Prop} {x xa : Expr} {a e0 : Ex} (mk : ∀ r ta, good r → PE X xa ta → PE X x (tUn r ta)) (g0 : good (fun _ _ _ => False)) (f : D → Option D) (ok : OkU p.K p.cl good f)
    (ha : SE p W X G cf a xa) (na : isBor a = none) (n : isBor e0 = none) (ρ : Env) :
    PE X x (tE p W e0 ρ ((evE G cf a ρ).bind fun d ρ1 => ofO (f d) ρ1)) := by
  have h := one mk g0 f ok ha n ρ
  have e : ∀ d ρ1, fx a d ρ1 = some d := fun d ρ1 => fx_clean na d ρ1
  simpa only [e] using h

/-! ### lists of operands -/
def ValL (p : Pr) (σ : L2.St) (H : Hp) (Wr : Addr → Prop) : Exs → List V → List D → Prop
  | .nil, [], [] => True
  | .cons e es, v :: vs, d :: ds => Val p e σ H Wr v d ∧ ValL p σ H Wr es vs ds
  | _, _, _ => False
theorem Val.step {e : Ex} {σ : L2.St} {H H1 : Hp} {Wr : Addr → Prop} {v : V} {d : D} (h : Val p e σ H Wr v d) (f : Fr Wr H H1) : Val p e σ H1 Wr v d := by
  unfold Val at h ⊢
  cases n : isBor e with
  | some i => rw [n] at h; exact h
  | none => rw [n] at h; exact Rep.fr (p := p) h f
theorem ValL.step {σ : L2.St} {H H1 : Hp} {Wr : Addr → Prop} (f : Fr Wr H H1) : ∀ {es : Exs} {vs : List V} {ds : List D}, ValL p σ H Wr es vs ds → ValL p σ H1 Wr es vs ds
  | .nil, [], [], h => h
  | .cons _ _, _ :: _, _ :: _, h => ⟨h.1.step f, ValL.step f h.2⟩
  | .nil, _ :: _, _, h => h.elim
  | .nil, [], _ :: _, h => h.elim
  | .cons _ _, [], _, h => h.elim
  | .cons _ _, _ :: _, [], h => h.elim
variable (p W) in
def tKA (es : Exs) (Wr : Addr → Prop) (σ : L2.St) (H : Hp) (r : R (List D)) (Q : List V → Hp → Prop) : Prop :=
  match r with
  | .ok ds ρ1 => ∀ vs H1, Rel p ρ1 σ H1 Wr → Fr Wr H H1 → ValL p σ H1 Wr es vs ds → Q vs H1
  | .ex c fs ρ1 => ∀ dx H1, Rel p ρ1 σ H1 Wr → Fr Wr H H1 → XRep p H1 Wr dx c fs → W (.ref (p.xc c)) dx σ H1
  | .no => False
variable (p W) in
def tA (es : Exs) (ρ : Env) (r : R (List D)) : TA := fun σ H Q => ∃ Wr, Rel p ρ σ H Wr ∧ tKA p W es Wr σ H r Q
theorem tKA.step {es : Exs} {Wr : Addr → Prop} {σ : L2.St} {H H1 : Hp} {r : R (List D)} {Q : List V → Hp → Prop} (h : tKA p W es Wr σ H r Q) (f : Fr Wr H H1) : tKA p W es Wr σ H1 r Q := by
  cases r with
  | ok d ρ1 => exact fun v H2 r g k => h v H2 r (f.trans g) k
  | ex c fs ρ1 => exact fun v H2 r g k => h v H2 r (f.trans g) k
  | no => exact h
theorem pa_imp {xs : List Expr} {t t' : TA} (h : PA X xs t) (i : ∀ σ H Q, t' σ H Q → t σ H Q) : PA X xs t' := ⟨fun pos pins s σ H Q I q => h.run pos pins s σ H Q I (i σ H Q q)⟩
theorem pa_void {xs : List Expr} {t : TA} (i : ∀ σ H Q, ¬ t σ H Q) : PA X xs t := ⟨fun pos pins s σ H Q I q => (i σ H Q q).elim⟩
theorem pa_no {xs : List Expr} {es : Exs} {ρ : Env} : PA X xs (tA p W es ρ .no) := pa_void fun σ H Q h => by
  obtain ⟨Wr, _, h⟩ := h
  exact h
variable (p W X G cf) in
def SA (es : Exs) (xs : List Expr) : Prop := ∀ ρ, PA X xs (tA p W es ρ (evs G cf es ρ))
theorem sa_nil : SA p W X G cf .nil [] := fun ρ => pa_imp pa_nil fun σ H Q h => by
  obtain ⟨Wr, r, k⟩ := h
  exact k [] H r Fr.refl trivial
theorem sa_cons {e : Ex} {es : Exs} {x : Expr} {xs : List Expr} (h1 : SE p W X G cf e x) (h2 : SA p W X G cf es xs) (hs : starEach (x :: xs) X.env = (false, eval x X.env) :: starEach xs X.env) : SA p W X G cf (.cons e es) (x :: xs) := fun ρ => by
  have pa := h1 ρ
  simp only [evs]
  cases ea : evE G cf e ρ with
  | no => exact pa_no
  | ex c fs ρ1 =>
    rw [ea] at pa
    exact pa_imp (pa_cons pa (pa_void (t := fun _ _ _ => False) fun _ _ _ z => z) hs) fun σ H Q h => h
  | ok d ρ1 =>
    rw [ea] at pa
    have pb := h2 ρ1
    simp only [R.bind]
    cases eb : evs G cf es ρ1 with
    | no => exact pa_no
    | ex c fs ρ2 =>
      rw [eb] at pb
      refine pa_imp (pa_cons pa pb hs) fun σ H Q h => ?_
      obtain ⟨Wr, r, k⟩ := h
      exact ⟨Wr, r, fun v H1 r1 f1 _ => ⟨Wr, r1, k.step f1⟩⟩
    | ok ds ρ2 =>
      rw [eb] at pb
      refine pa_imp (pa_cons pa pb hs) fun σ H Q h => ?_
      obtain ⟨Wr, r, k⟩ := h
      refine ⟨Wr, r, fun v H1 r1 f1 w1 => ⟨Wr, r1, fun vs H2 r2 f2 w2 => ?_⟩⟩
      exact k (v :: vs) H2 r2 (f1.trans f2) ⟨w1.step f2, w2⟩
/-- all clean -/
def allClean : Exs → Bool
  | .nil => true
  | .cons e es => (isBor e).isNone && allClean es
theorem ValL.rep {σ : L2.St} {H : Hp} {Wr : Addr → Prop} : ∀ {es : Exs} {vs : List V} {ds : List D}, allClean es = true → ValL p σ H Wr es vs ds → RepA p.K p.cl H (p.O Wr) vs ds
  | .nil, [], [], _, _ => .nil
  | .cons e es, v :: vs, d :: ds, c, h => by
    have c : (isBor e).isNone = true ∧ allClean es = true := by simpa [allClean] using c
    exact .cons (h.1.rep (by simpa using c.1)) (ValL.rep c.2 h.2)
  | .nil, _ :: _, _, _, h => h.elim
  | .nil, [], _ :: _, _, h => h.elim
  | .cons _ _, [], _, _, h => h.elim
  | .cons _ _, _ :: _, [], _, h => h.elim
theorem s_tup {es : Exs} {xs : List Expr} {k : Nat} {pos : Pos} (h : SA p W X G cf es xs) (c : allClean es = true) : SE p W X G cf (.tup es) (.Tuple xs k pos) := fun ρ => by
  have pa := h ρ
  simp only [evE]
  cases ea : evs G cf es ρ with
  | no => exact pe_no
  | ex c fs ρ1 =>
    rw [ea] at pa
    exact pe_imp (pe_tup pa) fun σ H Q h => h
  | ok ds ρ1 =>
    rw [ea] at pa
    simp only [R.bind]
    by_cases hz : fitn ds.length = true
    · rw [if_pos hz]
      refine pe_imp (pe_tup pa) fun σ H Q h => ?_
      obtain ⟨Wr, r, q⟩ := h
      refine ⟨Wr, r, fun vs H1 r1 f1 w1 => ?_⟩
      have rp := w1.rep c
      refine ⟨by rw [rp.length]; exact of_decide_eq_true hz, fun t ht => ?_⟩
      have s := same_upd (o := .tup vs) ht
      exact q (.ref t) _ (r1.same s) (f1.trans (Fr.same s)) (Val.of (p := p) (.tup (.inl upd_same) (nodom r1.dom ht) (rp.same s)) rfl)
    · rw [if_neg hz]
      exact pe_no
end
end PD
end

section
set_option Elab.async false
set_option linter.all false
set_option maxRecDepth 100000
set_option maxHeartbeats 1000000
/-! PD4: new cells, names, constants, operators, tests -/
namespace PD
open PySem PySem.Spec PyProof.Rows L2

theorem Rel.grow {p : Pr} {ρ : Env} {σ : L2.St} {H H' : Hp} {Wr : Addr → Prop} {t : Addr} (r : Rel p ρ σ H Wr) (ht : H t = none) (s : Same H H') (he : (H' t).isSome = true) : Rel p ρ σ H' (fun a => Wr a ∨ a = t) := by
  have fr : ∀ a o, ¬ p.O Wr a → H a = some o → H' a = some o := fun a o _ e => s a o e
  have ho : ∀ a, (H a).isSome = true → p.O (fun a => Wr a ∨ a = t) a → p.O Wr a := fun a e z => by
    rcases z with z | z | z
    · exact .inl z
    · exact .inr z
    · rw [z, ht] at e; cases e
  refine ⟨r.len, fun a z => ?_, fun i d m e => ?_, fun i d m e => ?_, r.inj, r.ioz⟩
  · rcases z with z | z | z
    · exact Same.some s (r.dom a (.inl z))
    · exact Same.some s (r.dom a (.inr z))
    · rw [z]; exact he
  · obtain ⟨v, q, h⟩ := r.cl i d m e
    exact ⟨v, q, h.frame fr ho⟩
  · obtain ⟨a, q, w, h, z⟩ := r.own i d m e
    obtain ⟨o, eo⟩ := Option.isSome_iff_exists.mp h.there
    exact ⟨a, q, .inl w, h.frame ((s a o eo).trans eo.symm) fr ho, z⟩
section
variable {p : Pr} {W : WX} {X : Cx} {G : List D} {cf : Nat → List D → C}
variable (p W) in
def tKF (Wr : Addr → Prop) (σ : L2.St) (H : Hp) (r : R D) (Q : VK) : Prop :=
  match r with
  | .ok d ρ1 => ∀ a H1, H a = none → Rel p ρ1 σ H1 Wr → Rel p ρ1 σ H1 (fun b => Wr b ∨ b = a) → Fr Wr H H1 → ¬ p.O Wr a → p.Own H1 (fun b => Wr b ∨ b = a) a d → Q (.ref a) H1
  | .ex c fs ρ1 => ∀ dx H1, Rel p ρ1 σ H1 Wr → Fr Wr H H1 → XRep p H1 Wr dx c fs → W (.ref (p.xc c)) dx σ H1
  | .no => False
variable (p W) in
def tF (ρ : Env) (r : R D) : TE := fun σ H Q => ∃ Wr, Rel p ρ σ H Wr ∧ tKF p W Wr σ H r Q
variable (p W X G cf) in
def SF (e : Ex) (x : Expr) : Prop := ∀ ρ, PE X x (tF p W ρ (evE G cf e ρ))
theorem tKF.step {Wr : Addr → Prop} {σ : L2.St} {H H1 : Hp} {r : R D} {Q : VK} (h : tKF p W Wr σ H r Q) (f : Fr Wr H H1) : tKF p W Wr σ H1 r Q := by
  cases r with
  | ok d ρ1 => exact fun a H2 n => h a H2 (by
      cases q : H a with
      | none => rfl
      | some o =>
        have := f.dom a (by rw [q]; rfl)
        rw [n] at this; cases this) |> fun k r1 r2 g => k r1 r2 (f.trans g)
  | ex c fs ρ1 => exact fun v H2 r g k => h v H2 r (f.trans g) k
  | no => exact h
theorem pf_no {x : Expr} {ρ : Env} : PE X x (tF p W ρ .no) := pe_void fun σ H Q h => by
  obtain ⟨Wr, _, h⟩ := h
  exact h
theorem se_of_sf {e : Ex} {x : Expr} (h : SF p W X G cf e x) (n : isBor e = none) : SE p W X G cf e x := fun ρ => pe_imp (h ρ) fun σ H Q k => by
  obtain ⟨Wr, r, k⟩ := k
  refine ⟨Wr, r, ?_⟩
  cases ea : evE G cf e ρ with
  | no => rw [ea] at k; exact k
  | ex c fs ρ1 => rw [ea] at k; exact k
  | ok d ρ1 =>
    rw [ea] at k
    exact fun a H1 _ r1 _ f no o => k (.ref a) H1 r1 f (Val.of (p := p) (o.rep (fun b z => z.imp id .inl) no) n)
/-- the end of a form that makes a new cell t -/
theorem fin_new {σ : L2.St} {H H1 : Hp} {Wr : Addr → Prop} {ρ1 : Env} {Q : VK} {d : D} {t : Addr} {o : HO} (k : tKF p W Wr σ H (.ok d ρ1) Q) (r1 : Rel p ρ1 σ H1 Wr) (f1 : Fr Wr H H1) (ht : H1 t = none)
    (ow : p.Own (upd H1 t o) (fun b => Wr b ∨ b = t) t d) : Q (.ref t) (upd H1 t o) := by
  have s := same_upd (o := o) ht
  refine k t _ ?_ (r1.same s) (r1.grow ht s (by rw [upd_same]; rfl)) (f1.trans (Fr.same s)) (nodom r1.dom ht) ow
  cases q : H t with
  | none => rfl
  | some u =>
    have := f1.dom t (by rw [q]; rfl)
    rw [ht] at this; cases this
theorem RepA.grow {K : PySem.W.Frag} {cl : Nat → Addr} {H H' : Hp} {O O' : Addr → Prop} {t : Addr} {vs : List V} {ds : List D} (h : RepA K cl H O vs ds) (s : Same H H') (ht : H t = none) (ho : ∀ a, O' a → O a ∨ a = t) : RepA K cl H' O' vs ds :=
  h.frame (fun a o _ e => s a o e) fun a e z => by
    rcases ho a z with z | z
    · exact z
    · rw [z, ht] at e; cases e
theorem oz {Wr : Addr → Prop} {t : Addr} : ∀ a, p.O (fun b => Wr b ∨ b = t) a → p.O Wr a ∨ a = t := fun a z => by
  rcases z with z | z | z
  · exact .inl (.inl z)
  · exact .inl (.inr z)
  · exact .inr z
theorem sf_lst {es : Exs} {xs : List Expr} {pos : Pos} (h : SA p W X G cf es xs) (c : allClean es = true) : SF p W X G cf (.lst es) (.List xs pos) := fun ρ => by
  have pa := h ρ
  simp only [evE]
  cases ea : evs G cf es ρ with
  | no => exact pf_no
  | ex c fs ρ1 =>
    rw [ea] at pa
    exact pe_imp (pe_lst pa) fun σ H Q h => h
  | ok ds ρ1 =>
    rw [ea] at pa
    simp only [R.bind]
    by_cases hz : fitn ds.length = true
    · rw [if_pos hz]
      refine pe_imp (pe_lst pa) fun σ H Q h => ?_
      obtain ⟨Wr, r, q⟩ := h
      refine ⟨Wr, r, fun vs H1 r1 f1 w1 => ?_⟩
      have rp := w1.rep c
      refine ⟨by rw [rp.length]; exact of_decide_eq_true hz, fun t ht => ?_⟩
      exact fin_new q r1 f1 ht (.lst upd_same (rp.grow (same_upd ht) ht oz))
    · rw [if_neg hz]
      exact pf_no

/-! ### names and constants -/
theorem s_var {i : Nat} {x : Str} {pos : Pos} (hN : X.N[i]? = some x) (hv : Vis X.env.scope x) (hM : p.M i = false) (hd : (x == ("__debug__" : Str)) = false) (hcd : (x == ("__classdict__" : Str)) = false) : SE p W X G cf (.var i) (.Name x pos) := fun ρ => by
  simp only [evE]
  cases e : lk ρ i with
  | none => exact pe_no
  | some d =>
    refine pe_imp (pe_var hN hv hd hcd) fun σ H Q h => ?_
    obtain ⟨Wr, r, k⟩ := h
    obtain ⟨v, q, rp⟩ := r.cl i d hM e
    exact ⟨v, q, k v H r Fr.refl rp⟩
theorem s_bor {i : Nat} {x : Str} {pos : Pos} (hN : X.N[i]? = some x) (hv : Vis X.env.scope x) (hM : p.M i = true) (hd : (x == ("__debug__" : Str)) = false) (hcd : (x == ("__classdict__" : Str)) = false) : SE p W X G cf (.bor i) (.Name x pos) := fun ρ => by
  simp only [evE]
  cases e : lk ρ i with
  | none => exact pe_no
  | some d =>
    refine pe_imp (pe_var hN hv hd hcd) fun σ H Q h => ?_
    obtain ⟨Wr, r, k⟩ := h
    obtain ⟨a, q, _⟩ := r.own i d hM e
    exact ⟨_, q, k _ H r Fr.refl ⟨hM, q⟩⟩
theorem s_const {e : Ex} {x : Expr} {v : V} {d : D} (n : isBor e = none) (hx : PE X x (tC v)) (he : ∀ ρ, evE G cf e ρ = .ok d ρ) (hr : ∀ H O, PD.Rep p.K p.cl H O v d) : SE p W X G cf e x := fun ρ => by
  rw [he]
  refine pe_imp hx fun σ H Q h => ?_
  obtain ⟨Wr, r, k⟩ := h
  exact k v H r Fr.refl (Val.of (p := p) (hr H _) n)
theorem s_non {j pos} : SE p W X G cf .non (.Constant .none j pos) := s_const rfl pe_non (fun ρ => by simp only [evE]) fun _ _ => .non
theorem s_bl {b j pos} : SE p W X G cf (.bl b) (.Constant (.bool b) j pos) := s_const rfl pe_bl (fun ρ => by simp only [evE]) fun _ _ => .bl b
theorem s_int {i j pos} : SE p W X G cf (.int i) (.Constant (.int i) j pos) := s_const rfl pe_int (fun ρ => by simp only [evE]) fun _ _ => .int i
theorem s_str {z j pos} : SE p W X G cf (.str z) (.Constant (.str z) j pos) := s_const rfl pe_str (fun ρ => by simp only [evE]) fun _ _ => .str z
theorem s_glo {g : Nat} {x : Str} {pos : Pos} {v : V} {u : Value} {d : D} (hg : Gl X x) (hm : X.mg x = some u) (r : RelV v u) (e : G[g]? = some d) (hr : ∀ H O, PD.Rep p.K p.cl H O v d) (hd : (x == ("__debug__" : Str)) = false) : SE p W X G cf (.glo g) (.Name x pos) :=
  s_const rfl (pe_glob hg hm r hd) (fun ρ => by simp only [evE, e, ofO]) hr

/-! ### operators -/
theorem s_bin (hK : X.K = p.K) {o : Bop} {a b : Ex} {xa xb : Expr} {pos : Pos} (ha : SE p W X G cf a xa) (hb : SE p W X G cf b xb) : SE p W X G cf (.bin o a b) (.BinOp xa (opOf o) xb pos) := fun ρ => by
  simp only [evE]
  exact two (good := fun r => OpR X (binaryOp (opOf o)) r) (fun r ta tb g h1 h2 => pe_op g h1 h2) op_false (binD o) (hK ▸ ok_bin (X := X) o) ha hb rfl ρ
theorem s_cmp (hK : X.K = p.K) (hu : X.A.units + 70 < cLine) {o : Cop} {a b : Ex} {xa xb : Expr} {pos : Pos} (ha : SE p W X G cf a xa) (hb : SE p W X G cf b xb) (hm : behindInMarks (copOf o) xb = false) :
    SE p W X G cf (.cmp o a b) (.Compare xa [copOf o] [xb] pos) := fun ρ => by
  simp only [evE]
  exact two (good := fun r => OpR X (compareOp (copOf o)) r) (fun r ta tb g h1 h2 => pe_cmpR g h1 h2 hm) op_false (cmpD o) (hK ▸ ok_cmp (X := X) hu o) ha hb rfl ρ
theorem un_false {f : Value → Sem Value} : UnR X f (fun _ _ _ => False) := fun _ _ _ _ _ _ _ _ _ z => z.elim
theorem s_neg {a : Ex} {xa : Expr} {pos : Pos} (ha : SE p W X G cf a xa) (na : isBor a = none) : SE p W X G cf (.neg a) (.UnaryOp .USub xa pos) := fun ρ => by
  simp only [evE]
  exact one' (good := fun r => UnR X (unaryOp .USub) r) (fun r ta g h1 => pe_un g h1) un_false negD (fun d c h => by
      cases d <;> simp only [negD] at h <;> cases h
      exact ⟨_, un_neg, fun x H Q O hO rx q => ⟨_, rx.int, q _ _ (Same.refl H) (.int _)⟩⟩) ha na rfl ρ

/-! ### truth -/
theorem RepB.tru {K : PySem.W.Frag} {cl : Nat → Addr} {H : Hp} {O : Addr → Prop} {v : V} {d : D} {b : Bool} (h : RepB K cl H O v d) (e : truD d = some b) : TruV K v H b := by
  cases d with
  | non => rw [h.non]; cases e; rfl
  | bl c => rw [h.bl]; cases e; rfl
  | int i => rw [h.int]; cases e; rfl
  | str s =>
    rw [h.str]
    simp only [truD] at e
    split at e
    · rename_i f
      cases e
      exact ⟨of_decide_eq_true f, rfl⟩
    · cases e
  | tup xs =>
    obtain ⟨a, vs, rfl, ha, q⟩ := h.tup
    cases e
    exact .inr (.inl ⟨vs, ha, by cases q <;> rfl⟩)
  | lst xs =>
    obtain ⟨a, vs, rfl, ha, q⟩ := h.lst
    cases e
    exact .inl ⟨vs, SqL.of ha, by cases q <;> rfl⟩
  | dct _ _ => cases e
  | fz _ => cases e
  | scr _ => cases e
  | obj _ _ => cases e
theorem s_nt (hK : X.K = p.K) {a : Ex} {xa : Expr} {pos : Pos} (ha : SE p W X G cf a xa) : SE p W X G cf (.nt a) (.UnaryOp .Not xa pos) := fun ρ => by
  have pa := ha ρ
  simp only [evE]
  cases ea : evE G cf a ρ with
  | no => exact pe_no
  | ex c fs ρ1 => rw [ea] at pa; exact pe_imp (pe_notT pa) fun σ H Q h => h
  | ok d ρ1 =>
    rw [ea] at pa
    simp only [R.bind]
    cases e1 : fx a d ρ1 with
    | none => exact pe_no
    | some d' =>
      cases e2 : truD d' with
      | none => simp only [e2]; exact pe_no
      | some b =>
        simp only [e2]
        refine pe_imp (pe_notT pa) fun σ H Q h => ?_
        obtain ⟨Wr, r, k⟩ := h
        refine ⟨Wr, r, fun v H1 r1 f1 w1 => ⟨b, hK ▸ (w1.at r1 Fr.refl e1).tru e2, ?_⟩⟩
        exact k _ H1 r1 f1 (Val.of (p := p) (.bl _) rfl)
theorem s_an (hK : X.K = p.K) {a b : Ex} {xa xb : Expr} {rest : List Expr} {pos : Pos} (ha : SE p W X G cf a xa) (na : isBor a = none) (nb : isBor b = none) (hb : SE p W X G cf b (.BoolOp .And (xb :: rest) pos)) : SE p W X G cf (.an a b) (.BoolOp .And (xa :: xb :: rest) pos) := fun ρ => by
  have pa := ha ρ
  simp only [evE]
  cases ea : evE G cf a ρ with
  | no => exact pe_no
  | ex c fs ρ1 => rw [ea] at pa; exact pe_imp (pe_andT pa (pe_void (t := fun _ _ _ => False) fun _ _ _ z => z)) fun σ H Q h => h
  | ok d ρ1 =>
    rw [ea] at pa
    simp only [R.bind]
    cases e2 : truD d with
    | none => exact pe_no
    | some c =>
      cases c with
      | true =>
        refine pe_imp (pe_andT pa (hb ρ1)) fun σ H Q h => ?_
        obtain ⟨Wr, r, k⟩ := h
        refine ⟨Wr, r, fun v H1 r1 f1 w1 => ⟨true, hK ▸ (w1.at r1 Fr.refl (fx_clean na d ρ1)).tru e2, ?_⟩⟩
        rw [if_pos rfl]
        refine ⟨Wr, r1, ?_⟩
        have k := k.step f1
        revert k
        cases evE G cf b ρ1 with
        | no => exact fun k => k
        | ex c fs ρ2 => exact fun k => k
        | ok e ρ2 => exact fun k u H2 r2 f2 w2 => k u H2 r2 f2 (Val.of (p := p) (w2.rep nb) rfl)
      | false =>
        refine pe_imp (pe_andT pa (hb ρ1)) fun σ H Q h => ?_
        obtain ⟨Wr, r, k⟩ := h
        refine ⟨Wr, r, fun v H1 r1 f1 w1 => ⟨false, hK ▸ (w1.at r1 Fr.refl (fx_clean na d ρ1)).tru e2, ?_⟩⟩
        rw [if_neg Bool.false_ne_true]
        exact k v H1 r1 f1 (Val.of (p := p) (w1.rep na) rfl)
theorem s_orr (hK : X.K = p.K) {a b : Ex} {xa xb : Expr} {rest : List Expr} {pos : Pos} (ha : SE p W X G cf a xa) (na : isBor a = none) (nb : isBor b = none) (hb : SE p W X G cf b (.BoolOp .Or (xb :: rest) pos)) : SE p W X G cf (.orr a b) (.BoolOp .Or (xa :: xb :: rest) pos) := fun ρ => by
  have pa := ha ρ
  simp only [evE]
  cases ea : evE G cf a ρ with
  | no => exact pe_no
  | ex c fs ρ1 => rw [ea] at pa; exact pe_imp (pe_orT pa (pe_void (t := fun _ _ _ => False) fun _ _ _ z => z)) fun σ H Q h => h
  | ok d ρ1 =>
    rw [ea] at pa
    simp only [R.bind]
    cases e2 : truD d with
    | none => exact pe_no
    | some c =>
      cases c with
      | false =>
        refine pe_imp (pe_orT pa (hb ρ1)) fun σ H Q h => ?_
        obtain ⟨Wr, r, k⟩ := h
        refine ⟨Wr, r, fun v H1 r1 f1 w1 => ⟨false, hK ▸ (w1.at r1 Fr.refl (fx_clean na d ρ1)).tru e2, ?_⟩⟩
        rw [if_neg Bool.false_ne_true]
        refine ⟨Wr, r1, ?_⟩
        have k := k.step f1
        revert k
        cases evE G cf b ρ1 with
        | no => exact fun k => k
        | ex c fs ρ2 => exact fun k => k
        | ok e ρ2 => exact fun k u H2 r2 f2 w2 => k u H2 r2 f2 (Val.of (p := p) (w2.rep nb) rfl)
      | true =>
        refine pe_imp (pe_orT pa (hb ρ1)) fun σ H Q h => ?_
        obtain ⟨Wr, r, k⟩ := h
        refine ⟨Wr, r, fun v H1 r1 f1 w1 => ⟨true, hK ▸ (w1.at r1 Fr.refl (fx_clean na d ρ1)).tru e2, ?_⟩⟩
        rw [if_pos rfl]
        exact k v H1 r1 f1 (Val.of (p := p) (w1.rep na) rfl)
theorem s_one {e : Ex} {x : Expr} {op : BoolOp} {pos : Pos} (h : SE p W X G cf e x) : SE p W X G cf e (.BoolOp op [x] pos) := fun ρ => pe_one (h ρ)

/-! ### tests -/
/-- what a test of e comes to -/
def evT (G : List D) (cf : Nat → List D → C) (e : Ex) (ρ : Env) : R Bool :=
  (evE G cf e ρ).bind fun d ρ1 => match fx e d ρ1 with
    | some d' => ofO (truD d') ρ1
    | none => .no
variable (p W) in
def tKT (Wr : Addr → Prop) (σ : L2.St) (H : Hp) (r : R Bool) (Q : Bool → Hp → Prop) : Prop :=
  match r with
  | .ok b ρ1 => ∀ H1, Rel p ρ1 σ H1 Wr → Fr Wr H H1 → Q b H1
  | .ex c fs ρ1 => ∀ dx H1, Rel p ρ1 σ H1 Wr → Fr Wr H H1 → XRep p H1 Wr dx c fs → W (.ref (p.xc c)) dx σ H1
  | .no => False
variable (p W) in
def tT (ρ : Env) (r : R Bool) : TT := fun σ H Q => ∃ Wr, Rel p ρ σ H Wr ∧ tKT p W Wr σ H r Q
theorem tKT.step {Wr : Addr → Prop} {σ : L2.St} {H H1 : Hp} {r : R Bool} {Q : Bool → Hp → Prop} (h : tKT p W Wr σ H r Q) (f : Fr Wr H H1) : tKT p W Wr σ H1 r Q := by
  cases r with
  | ok d ρ1 => exact fun H2 r g => h H2 r (f.trans g)
  | ex c fs ρ1 => exact fun v H2 r g k => h v H2 r (f.trans g) k
  | no => exact h
variable (p W X G cf) in
def ST (e : Ex) (x : Expr) : Prop := ∀ ρ, PT X x (tT p W ρ (evT G cf e ρ))
variable (p W X G cf) in
def SW (e : Ex) (x : Expr) : Prop := ∀ ρ, PW X x (tT p W ρ (evT G cf e ρ))
theorem pt_imp {x : Expr} {t t' : TT} (h : PT X x t) (i : ∀ σ H Q, t' σ H Q → t σ H Q) : PT X x t' := ⟨fun pins s σ H Q I q => h.run pins s σ H Q I (i σ H Q q)⟩
theorem pw_imp {x : Expr} {t t' : TT} (h : PW X x t) (i : ∀ σ H Q, t' σ H Q → t σ H Q) : PW X x t' := ⟨fun wh pins s σ H Q I q => h.run wh pins s σ H Q I (i σ H Q q)⟩
theorem pw_void {x : Expr} {t : TT} (i : ∀ σ H Q, ¬ t σ H Q) : PW X x t := ⟨fun wh pins s σ H Q I q => (i σ H Q q).elim⟩
theorem pt_void {x : Expr} {t : TT} (i : ∀ σ H Q, ¬ t σ H Q) : PT X x t := ⟨fun pins s σ H Q I q => (i σ H Q q).elim⟩
theorem tT_no {ρ : Env} {σ : L2.St} {H : Hp} {Q : Bool → Hp → Prop} : ¬ tT p W ρ .no σ H Q := fun h => by
  obtain ⟨Wr, _, h⟩ := h
  exact h
/-- a test by its value's truth -/
theorem tru_read (hK : X.K = p.K) {e : Ex} {ρ : Env} (σ : L2.St) (H : Hp) (Q : Bool → Hp → Prop) (h : tT p W ρ (evT G cf e ρ) σ H Q) :
    tE p W e ρ (evE G cf e ρ) σ H fun x H1 => ∃ k, TruV X.K x H1 k ∧ Q k H1 := by
  obtain ⟨Wr, r, k⟩ := h
  refine ⟨Wr, r, ?_⟩
  unfold evT at k
  cases ea : evE G cf e ρ with
  | no => rw [ea] at k; exact k
  | ex c fs ρ1 => rw [ea] at k; exact k
  | ok d ρ1 =>
    rw [ea] at k
    simp only [R.bind] at k
    intro v H1 r1 f1 w1
    cases e1 : fx e d ρ1 with
    | none => rw [e1] at k; exact k.elim
    | some d' =>
      rw [e1] at k
      cases e2 : truD d' with
      | none => simp only [e2, ofO] at k; exact k.elim
      | some b =>
        simp only [e2, ofO] at k
        exact ⟨b, hK ▸ (w1.at r1 Fr.refl e1).tru e2, k H1 r1 f1⟩
theorem t_plain (hK : X.K = p.K) {e : Ex} {x : Expr} (h : SE p W X G cf e x) (hx : ∀ whole, isTrue x X.env whole = (do let v ← whole; standAt x.pos; holding [v] (truthy v))) : ST p W X G cf e x := fun ρ => pt_imp (pt_truth (h ρ) hx) fun σ H Q q => tru_read hK σ H Q q
theorem t_not (hK : X.K = p.K) {a : Ex} {xa : Expr} {pos : Pos} (ha : ST p W X G cf a xa) : ST p W X G cf (.nt a) (.UnaryOp .Not xa pos) := fun ρ => pt_imp (pt_not (ha ρ)) fun σ H Q h => by
  obtain ⟨Wr, r, k⟩ := h
  refine ⟨Wr, r, ?_⟩
  simp only [evT, evE] at k ⊢
  cases ea : evE G cf a ρ with
  | no => rw [ea] at k; exact k
  | ex c fs ρ1 => rw [ea] at k; exact k
  | ok d ρ1 =>
    rw [ea] at k
    simp only [R.bind] at k ⊢
    cases e1 : fx a d ρ1 with
    | none => rw [e1] at k; exact k
    | some d' =>
      rw [e1] at k
      cases e2 : truD d' with
      | none => simp only [e2] at k; exact k.elim
      | some b => simp only [e2] at k ⊢; exact k
theorem evT_an {a b : Ex} (na : isBor a = none) (nb : isBor b = none) (ρ : Env) : evT G cf (.an a b) ρ = (evT G cf a ρ).bind fun c ρ1 => if c = true then evT G cf b ρ1 else .ok false ρ1 := by
  simp only [evT, evE]
  cases evE G cf a ρ with
  | no => rfl
  | ex c fs ρ1 => rfl
  | ok d ρ1 =>
    simp only [R.bind, fx_clean na]
    cases e2 : truD d with
    | none => rfl
    | some c =>
      cases c with
      | true =>
        simp only [ofO, if_true, fx_clean nb]
        cases evE G cf b ρ1 with
        | no => rfl
        | ex c fs ρ2 => rfl
        | ok e ρ2 => simp only [fx]
      | false => simp only [ofO, fx, e2, Bool.false_eq_true, if_false]
theorem evT_orr {a b : Ex} (na : isBor a = none) (nb : isBor b = none) (ρ : Env) : evT G cf (.orr a b) ρ = (evT G cf a ρ).bind fun c ρ1 => if c = true then .ok true ρ1 else evT G cf b ρ1 := by
  simp only [evT, evE]
  cases evE G cf a ρ with
  | no => rfl
  | ex c fs ρ1 => rfl
  | ok d ρ1 =>
    simp only [R.bind, fx_clean na]
    cases e2 : truD d with
    | none => rfl
    | some c =>
      cases c with
      | false =>
        simp only [ofO, Bool.false_eq_true, if_false, fx_clean nb]
        cases evE G cf b ρ1 with
        | no => rfl
        | ex c fs ρ2 => rfl
        | ok e ρ2 => simp only [fx]
      | true => simp only [ofO, fx, e2, if_true]
theorem w_one_and {a : Ex} {xa : Expr} {pos : Pos} (ha : ST p W X G cf a xa) : SW p W X G cf a (.BoolOp .And [xa] pos) := fun ρ => pw_and1 (ha ρ)
theorem w_one_or {a : Ex} {xa : Expr} {pos : Pos} (ha : ST p W X G cf a xa) : SW p W X G cf a (.BoolOp .Or [xa] pos) := fun ρ => pw_or1 (ha ρ)
theorem w_and {a b : Ex} {xa xb : Expr} {rest : List Expr} {pos : Pos} (ha : ST p W X G cf a xa) (na : isBor a = none) (nb : isBor b = none) (hb : SW p W X G cf b (.BoolOp .And (xb :: rest) pos)) : SW p W X G cf (.an a b) (.BoolOp .And (xa :: xb :: rest) pos) := fun ρ => by
  have pa := ha ρ
  rw [evT_an na nb]
  cases ea : evT G cf a ρ with
  | no => exact pw_void fun σ H Q => tT_no
  | ex c fs ρ1 => rw [ea] at pa; exact pw_imp (pw_and pa (pw_void (t := fun _ _ _ => False) fun _ _ _ z => z)) fun σ H Q h => h
  | ok c ρ1 =>
    rw [ea] at pa
    refine pw_imp (pw_and pa (hb ρ1)) fun σ H Q h => ?_
    obtain ⟨Wr, r, k⟩ := h
    refine ⟨Wr, r, fun H1 r1 f1 => ?_⟩
    simp only [R.bind] at k
    cases c with
    | true => rw [if_pos rfl]; exact ⟨Wr, r1, k.step f1⟩
    | false => rw [if_neg Bool.false_ne_true]; exact k H1 r1 f1
theorem w_or {a b : Ex} {xa xb : Expr} {rest : List Expr} {pos : Pos} (ha : ST p W X G cf a xa) (na : isBor a = none) (nb : isBor b = none) (hb : SW p W X G cf b (.BoolOp .Or (xb :: rest) pos)) : SW p W X G cf (.orr a b) (.BoolOp .Or (xa :: xb :: rest) pos) := fun ρ => by
  have pa := ha ρ
  rw [evT_orr na nb]
  cases ea : evT G cf a ρ with
  | no => exact pw_void fun σ H Q => tT_no
  | ex c fs ρ1 => rw [ea] at pa; exact pw_imp (pw_or pa (pw_void (t := fun _ _ _ => False) fun _ _ _ z => z)) fun σ H Q h => h
  | ok c ρ1 =>
    rw [ea] at pa
    refine pw_imp (pw_or pa (hb ρ1)) fun σ H Q h => ?_
    obtain ⟨Wr, r, k⟩ := h
    refine ⟨Wr, r, fun H1 r1 f1 => ?_⟩
    simp only [R.bind] at k
    cases c with
    | false => rw [if_neg Bool.false_ne_true]; exact ⟨Wr, r1, k.step f1⟩
    | true => rw [if_pos rfl]; exact k H1 r1 f1
theorem w_t {e : Ex} {x : Expr} (h : SW p W X G cf e x) : ST p W X G cf e x := fun ρ => (h ρ).pt
theorem s_ite {t a b : Ex} {xt xa xb : Expr} {pos : Pos} (ht : ST p W X G cf t xt) (ha : SE p W X G cf a xa) (hb : SE p W X G cf b xb) (na : isBor a = none) (nb : isBor b = none) : SE p W X G cf (.ite t a b) (.IfExp xt xa xb pos) := fun ρ => by
  have pt := ht ρ
  have ev : evE G cf (.ite t a b) ρ = (evT G cf t ρ).bind fun c ρ1 => if c = true then evE G cf a ρ1 else evE G cf b ρ1 := by
    simp only [evE, evT]
    cases evE G cf t ρ with
    | no => rfl
    | ex c fs ρ1 => rfl
    | ok d ρ1 =>
      simp only [R.bind]
      cases fx t d ρ1 with
      | none => rfl
      | some d' =>
        cases e : truD d' with
        | none => simp only [e, ofO]
        | some c => cases c <;> simp [e, ofO]
  rw [ev]
  cases et : evT G cf t ρ with
  | no => exact pe_no
  | ex c fs ρ1 => rw [et] at pt; exact pe_imp (pe_ifExp pt (ha ρ1) (hb ρ1)) fun σ H Q h => h
  | ok c ρ1 =>
    rw [et] at pt
    refine pe_imp (pe_ifExp pt (ha ρ1) (hb ρ1)) fun σ H Q h => ?_
    obtain ⟨Wr, r, k⟩ := h
    refine ⟨Wr, r, fun H1 r1 f1 => ?_⟩
    have conv : ∀ {e : Ex} (n : isBor e = none) {r0 : R D}, tK p W (.ite t a b) Wr σ H1 r0 Q → tK p W e Wr σ H1 r0 Q := fun {e} n {r0} k => by
      cases r0 with
      | no => exact k
      | ex c fs ρ2 => exact k
      | ok d ρ2 => exact fun u H2 r2 f2 w2 => k u H2 r2 f2 (Val.of (p := p) (w2.rep n) rfl)
    have k := k.step f1
    simp only [R.bind] at k
    cases c with
    | true => exact iteT ⟨Wr, r1, conv na k⟩
    | false => exact iteF ⟨Wr, r1, conv nb k⟩
end
end PD
end

section
set_option Elab.async false
set_option linter.all false
set_option maxRecDepth 100000
set_option maxHeartbeats 1000000
/-! PD5: items, parts, built-ins, methods -/
namespace PD
open PySem PySem.Spec PyProof.Rows L2

theorem RepA.atI {K : PySem.W.Frag} {cl : Nat → Addr} {H : Hp} {O : Addr → Prop} {vs : List V} {ds : List D} {i : Int} {c : D} (h : RepA K cl H O vs ds) (e : L2.atI ds i = some c) : ∃ v, L2.atI vs i = some v ∧ PD.Rep K cl H O v c := by
  unfold L2.atI at e ⊢
  rw [h.length]
  cases z : ixN ds.length i with
  | none => rw [z] at e; cases e
  | some j =>
    rw [z] at e
    obtain ⟨v, e1, r⟩ := h.getD (show ds[j]? = some c from e)
    exact ⟨v, e1, r⟩
theorem RepA.cut {K : PySem.W.Frag} {cl : Nat → Addr} {H : Hp} {O : Addr → Prop} {vs : List V} {ds : List D} (h : RepA K cl H O vs ds) (lo hi : Option Int) : RepA K cl H O (cutV vs lo hi) (cutD ds lo hi) := by
  unfold cutV cutD
  rw [h.length]
  exact (h.drop _).take _
section
variable {X : Cx} {cl : Nat → Addr}
theorem ix_false : IxR X (fun _ _ _ _ => False) := fun _ _ _ _ _ _ _ _ _ _ _ _ _ _ h => h.elim
theorem atI_ints {ns : List Int} {i : Int} {c : Int} (h : L2.atI ns i = some c) : L2.atI (ns.map V.int) i = some (.int c) := by
  unfold L2.atI at h ⊢
  rw [List.length_map]
  cases z : ixN ns.length i with
  | none => rw [z] at h; cases h
  | some j =>
    rw [z] at h
    have h : ns[j]? = some c := h
    show (ns.map V.int)[j]? = some (.int c)
    rw [List.getElem?_map, h]; rfl
/-- a look into a dict with a text -/
theorem dget_val {K : PySem.W.Frag} {cl : Nat → Addr} {H : Hp} {O : Addr → Prop} {z : Str} : ∀ {ds : List (D × D)} {kvs : List (Key × V)}, ds.map (·.1) = kvs.map (fun p => kD p.1) → RepA K cl H O (kvs.map (·.2)) (ds.map (·.2)) →
    (∀ c, dget ds (.str z) = some c → ∃ v, valV kvs (.inr z) = some v ∧ PD.Rep K cl H O v c) ∧ (dget ds (.str z) = none → valV kvs (.inr z) = none)
  | [], [], _, _ => ⟨fun c h => by simp [dget] at h, fun _ => rfl⟩
  | [], _ :: _, h, _ => by cases h
  | _ :: _, [], h, _ => by cases h
  | (dk, dv) :: ds, (k, v) :: kvs, h, r => by
    simp only [List.map_cons, List.cons.injEq] at h
    cases r with
    | cons r1 r2 =>
      have ih := dget_val (z := z) h.2 r2
      have e : keq dk (.str z) = decide (k = Sum.inr z) := by
        rw [h.1]
        cases k with
        | inl i => simp [kD, keq]
        | inr x => simp [kD, keq]
      unfold dget valV at ih ⊢
      rw [List.find?_cons, List.find?_cons]
      simp only [e]
      cases hd : decide (k = (Sum.inr z : Key)) with
      | true => exact ⟨fun c hc => ⟨v, rfl, by cases hc; exact r1⟩, fun hc => by cases hc⟩
      | false => exact ih
theorem ix_dget (hu : X.A.units + 1 < cLine) : IxR X (fun x y H Q => ∃ a v, x = .ref a ∧ DGet H a y (some v) ∧ Q v H) := by
  intro value slice pins s σ H x y v u Q I rx ry h hs
  obtain ⟨a, w, rfl, g, q⟩ := h
  obtain rfl : v = Value.ref a := rx
  exact tail_any (dict_typeIs I g) PySem.F.slot_dict_getitem.lookup (d_getItem hu I g ry fun w' s3 I3 rw' => ⟨w, H, I3, rw', q⟩) hs
theorem ok_ix (hu : X.A.units + 70 < cLine) : OkOp X.K cl (fun r => IxR X r) ixD := by
  intro d e c h
  unfold ixD at h
  split at h
  · refine ⟨_, ix_tup, fun x y H Q O hO rx ry q => ?_⟩
    obtain ⟨a, vs, rfl, ha, qa⟩ := rx.tup
    cases ry.int
    obtain ⟨v, e1, r⟩ := qa.atI h
    exact ⟨_, _, _, v, rfl, rfl, ha, e1, q _ _ (Same.refl H) r⟩
  · refine ⟨_, ix_list, fun x y H Q O hO rx ry q => ?_⟩
    obtain ⟨a, vs, rfl, ha, qa⟩ := rx.lst
    cases ry.int
    obtain ⟨v, e1, r⟩ := qa.atI h
    exact ⟨_, _, _, v, rfl, rfl, SqL.of ha, e1, q _ _ (Same.refl H) r⟩
  · rename_i ns i
    cases z : L2.atI ns i with
    | none => rw [z] at h; cases h
    | some n =>
      rw [z] at h; cases h
      refine ⟨_, ix_list, fun x y H Q O hO rx ry q => ?_⟩
      obtain ⟨a, rfl, ha⟩ := rx.scr
      cases ry.int
      exact ⟨_, _, _, _, rfl, rfl, ha, atI_ints z, q _ _ (Same.refl H) (.int n)⟩
  · rename_i s i
    split at h
    · rename_i hf
      cases z : L2.atI s.cps.toList i with
      | none => rw [z] at h; cases h
      | some n =>
        rw [z] at h; cases h
        refine ⟨_, ix_str, fun x y H Q O hO rx ry q => ?_⟩
        cases rx.str; cases ry.int
        exact ⟨_, _, _, rfl, rfl, of_decide_eq_true hf, z, q _ _ (Same.refl H) (.str _)⟩
    · cases h
  · refine ⟨_, ix_dget (by omega), fun x y H Q O hO rx ry q => ?_⟩
    rcases rx with rx | ⟨b, _, rx⟩
    · cases rx with
      | fK e no hk qa =>
        cases ry.str
        obtain ⟨v, h1, h2⟩ := (dget_val hk qa).1 _ h
        exact ⟨_, v, rfl, .inl ⟨_, _, .inr ⟨_, e⟩, rfl, h1.symm⟩, q _ _ (Same.refl H) h2⟩
    · cases rx
  · refine ⟨_, ix_dget (by omega), fun x y H Q O hO rx ry q => ?_⟩
    cases ry.str
    rcases rx with rx | ⟨b, eb, rx⟩
    · cases rx with
      | dK e no hk qa =>
        obtain ⟨v, h1, h2⟩ := (dget_val hk qa).1 _ h
        exact ⟨_, v, rfl, .inl ⟨_, _, .inl e, rfl, h1.symm⟩, q _ _ (Same.refl H) h2⟩
    · subst eb
      cases rx with
      | dK e hk qa =>
        obtain ⟨v, h1, h2⟩ := (dget_val hk qa).1 _ h
        exact ⟨_, v, rfl, .inl ⟨_, _, .inl e, rfl, h1.symm⟩, q _ _ (Same.refl H) h2⟩
  · cases h
end
section
variable {p : Pr} {W : WX} {X : Cx} {G : List D} {cf : Nat → List D → C}
theorem pe_eq {x : Expr} {e : Ex} {ρ : Env} {r r' : R D} (h : PE X x (tE p W e ρ r)) (q : r = r') : PE X x (tE p W e ρ r') := q ▸ h
theorem s_ix (hK : X.K = p.K) (hu : X.A.units + 70 < cLine) {a b : Ex} {xa xb : Expr} {pos : Pos} (ha : SE p W X G cf a xa) (hb : SE p W X G cf b xb) (nb : isBor b = none) (hs : PlainIx xb) : SE p W X G cf (.ix a b) (.Subscript xa xb pos) := fun ρ => by
  have h := two (p := p) (W := W) (X := X) (G := G) (cf := cf) (good := fun r => IxR X r) (x := .Subscript xa xb pos) (e0 := .ix a b) (fun r ta tb g h1 h2 => pe_ix g h1 h2 hs) ix_false ixD (hK ▸ ok_ix (X := X) hu) ha hb rfl ρ
  simp only [evE]
  refine pe_eq h ?_
  refine congrArg _ (funext fun d => funext fun ρ1 => congrArg _ (funext fun e => funext fun ρ2 => ?_))
  rw [fx_clean nb]
  cases fx a d ρ2 <;> rfl

/-! ### parts -/
variable (p W) in
def tKO (Wr : Addr → Prop) (σ : L2.St) (H : Hp) (r : R (Option Int)) (Q : Option Int → Hp → Prop) : Prop :=
  match r with
  | .ok l ρ1 => ∀ H1, Rel p ρ1 σ H1 Wr → Fr Wr H H1 → Q l H1
  | .ex c fs ρ1 => ∀ dx H1, Rel p ρ1 σ H1 Wr → Fr Wr H H1 → XRep p H1 Wr dx c fs → W (.ref (p.xc c)) dx σ H1
  | .no => False
variable (p W) in
def tO (ρ : Env) (r : R (Option Int)) : TO := fun σ H Q => ∃ Wr, Rel p ρ σ H Wr ∧ tKO p W Wr σ H r Q
theorem tKO.step {Wr : Addr → Prop} {σ : L2.St} {H H1 : Hp} {r : R (Option Int)} {Q : Option Int → Hp → Prop} (h : tKO p W Wr σ H r Q) (f : Fr Wr H H1) : tKO p W Wr σ H1 r Q := by
  cases r with
  | ok d ρ1 => exact fun H2 r g => h H2 r (f.trans g)
  | ex c fs ρ1 => exact fun v H2 r g k => h v H2 r (f.trans g) k
  | no => exact h
def evO (G : List D) (cf : Nat → List D → C) (lo : Ex) (ρ : Env) : R (Option Int) := (evE G cf lo ρ).bind fun l r => ofO (ixO lo l) r
variable (p W X G cf) in
def SO (lo : Ex) (x : Option Expr) : Prop := ∀ ρ, PO X x (tO p W ρ (evO G cf lo ρ))
theorem po_imp {x : Option Expr} {t t' : TO} (h : PO X x t) (i : ∀ σ H Q, t' σ H Q → t σ H Q) : PO X x t' := ⟨fun pins s σ H Q I q => h.run pins s σ H Q I (i σ H Q q)⟩
theorem po_void {x : Option Expr} {t : TO} (i : ∀ σ H Q, ¬ t σ H Q) : PO X x t := ⟨fun pins s σ H Q I q => (i σ H Q q).elim⟩
theorem so_none : SO p W X G cf .nop none := fun ρ => po_imp po_none fun σ H Q h => by
  obtain ⟨Wr, r, k⟩ := h
  exact k H r Fr.refl
theorem so_some {e : Ex} {x : Expr} (h : SE p W X G cf e x) (n : isBor e = none) (n2 : ∀ d, ixO e d = match d with | .int i => some (some i) | _ => none) : SO p W X G cf e (some x) := fun ρ => by
  have pa := h ρ
  unfold evO
  cases ea : evE G cf e ρ with
  | no => exact po_void fun σ H Q ⟨_, _, k⟩ => k
  | ex c fs ρ1 => rw [ea] at pa; exact po_imp (po_some pa) fun σ H Q h => h
  | ok d ρ1 =>
    rw [ea] at pa
    simp only [R.bind, n2]
    cases d with
    | int i =>
      refine po_imp (po_some pa) fun σ H Q h => ?_
      obtain ⟨Wr, r, k⟩ := h
      refine ⟨Wr, r, fun v H1 r1 f1 w1 => ⟨i, ?_, k H1 r1 f1⟩⟩
      have w := w1.rep n
      cases w; rfl
    | _ => exact po_void fun σ H Q ⟨_, _, k⟩ => k
theorem sl_false : SlR X (fun _ _ _ _ _ => False) := fun _ _ _ _ _ _ _ _ _ _ _ _ _ _ _ _ _ h => h.elim
theorem ok_sl {cl : Nat → Addr} {l h : Option Int} {d c : D} (e : slD l h d = some c) : ∃ r, SlR X r ∧ ∀ (x : V) (H : Hp) (Q : VK) (O : Addr → Prop), (∀ a, O a → (H a).isSome = true) → RepB X.K cl H O x d →
    (∀ v H', Same H H' → PD.Rep X.K cl H' O v c → Q v H') → r x l h H Q := by
  unfold slD at e
  split at e
  · rename_i xs
    cases e
    refine ⟨_, sl_tupA, fun x H Q O hO rx q => ?_⟩
    obtain ⟨a, vs, rfl, ha, qa⟩ := rx.tup
    refine ⟨a, vs, rfl, ha, fun hw => ?_, fun hw t ht => ?_⟩
    · have : cutD xs l h = xs := by
        unfold cutD
        rw [← qa.length, hw.1, hw.2]
        simp [qa.length]
      rw [this] at q
      exact q _ _ (Same.refl H) rx.tupRep
    · have s := same_upd (o := .tup (cutV vs l h)) ht
      exact q _ _ s (.tup (.inl upd_same) (nodom hO ht) ((qa.cut l h).same s))
  · rename_i xs
    cases e
    refine ⟨_, sl_list, fun x H Q O hO rx q => ?_⟩
    obtain ⟨a, vs, rfl, ha, qa⟩ := rx.lst
    refine ⟨a, vs, rfl, SqL.of ha, fun t ht => ?_⟩
    have s := same_upd (o := .lst (cutV vs l h)) ht
    exact q _ _ s (.lst upd_same (nodom hO ht) ((qa.cut l h).same s))
  · rename_i ns
    cases e
    refine ⟨_, sl_list, fun x H Q O hO rx q => ?_⟩
    obtain ⟨a, rfl, ha⟩ := rx.scr
    refine ⟨a, _, rfl, ha, fun t ht => ?_⟩
    have s := same_upd (o := .lst (cutV (ns.map V.int) l h)) ht
    exact q _ _ s (.lst upd_same (nodom hO ht) (RepA.cut (RepA.ints ns) l h))
  · rename_i z
    split at e
    · rename_i hf
      cases e
      refine ⟨_, sl_str, fun x H Q O hO rx q => ?_⟩
      cases rx.str
      exact ⟨_, rfl, of_decide_eq_true hf, q _ _ (Same.refl H) (.str _)⟩
    · cases e
  · cases e
theorem s_sl (hK : X.K = p.K) {a lo hi : Ex} {xa : Expr} {xl xh : Option Expr} {p2 pos : Pos} (ha : SE p W X G cf a xa) (hl : SO p W X G cf lo xl) (hh : SO p W X G cf hi xh) : SE p W X G cf (.sl a lo hi) (.Subscript xa (.Slice xl xh none p2) pos) := fun ρ => by
  have pa := ha ρ
  have ev : evE G cf (.sl a lo hi) ρ = (evE G cf a ρ).bind fun d ρ1 => (evO G cf lo ρ1).bind fun l ρ2 => (evO G cf hi ρ2).bind fun h ρ3 => match fx a d ρ3 with
    | some d' => ofO (slD l h d') ρ3
    | none => .no := by simp only [evE, evO] <;> rfl
  rw [ev]
  cases ea : evE G cf a ρ with
  | no => exact pe_no
  | ex c fs ρ1 =>
    rw [ea] at pa
    exact pe_imp (pe_slice sl_false pa (po_void (t := fun _ _ _ => False) fun _ _ _ z => z) (po_void (t := fun _ _ _ => False) fun _ _ _ z => z)) fun σ H Q h => h
  | ok d ρ1 =>
    rw [ea] at pa
    have pl := hl ρ1
    simp only [R.bind]
    cases el : evO G cf lo ρ1 with
    | no => exact pe_no
    | ex c fs ρ2 =>
      rw [el] at pl
      refine pe_imp (pe_slice sl_false pa pl (po_void (t := fun _ _ _ => False) fun _ _ _ z => z)) fun σ H Q h => ?_
      obtain ⟨Wr, r, k⟩ := h
      exact ⟨Wr, r, fun v H1 r1 f1 w1 => ⟨Wr, r1, k.step f1⟩⟩
    | ok l ρ2 =>
      rw [el] at pl
      have ph := hh ρ2
      simp only
      cases eh : evO G cf hi ρ2 with
      | no => exact pe_no
      | ex c fs ρ3 =>
        rw [eh] at ph
        refine pe_imp (pe_slice sl_false pa pl ph) fun σ H Q h => ?_
        obtain ⟨Wr, r, k⟩ := h
        exact ⟨Wr, r, fun v H1 r1 f1 w1 => ⟨Wr, r1, fun H2 r2 f2 => ⟨Wr, r2, (k.step f1).step f2⟩⟩⟩
      | ok h ρ3 =>
        rw [eh] at ph
        simp only
        cases e1 : fx a d ρ3 with
        | none => exact pe_no
        | some d' =>
          simp only
          cases e3 : slD l h d' with
          | none => exact pe_no
          | some c =>
            obtain ⟨r, g, k⟩ := ok_sl (X := X) (cl := p.cl) e3
            refine pe_imp (pe_slice g pa pl ph) fun σ H Q h => ?_
            obtain ⟨Wr, rl, q⟩ := h
            refine ⟨Wr, rl, fun v H1 r1 f1 w1 => ⟨Wr, r1, fun H2 r2 f2 => ⟨Wr, r2, fun H3 r3 f3 => ?_⟩⟩⟩
            rw [hK] at k
            exact k v H3 Q (p.O Wr) r3.dom (w1.at r3 (f2.trans f3) e1) (fin_ok (o := some c) r3 (((q.step f1).step f2).step f3) rfl rfl)
end
end PD
end

section
set_option Elab.async false
set_option linter.all false
set_option maxRecDepth 100000
set_option maxHeartbeats 1000000
/-! PDR: x[::-1] of lists, tuples, texts -/
namespace PD
open PySem PySem.Spec PyProof.Rows L2

section
variable {prog : Program} {w : World} {A : Around} {E : Value → Shared → Prop} {s : Shared}
theorem back_range (n : Nat) (xs : Array Value) (hn : xs.size = n) : ((List.range n).filterMap fun (m : Nat) => xs[((n : Int) - 1 + (m : Int) * -1).toNat]?).toArray = xs.toList.reverse.toArray := by
  congr 1
  have e1 : ((List.range n).filterMap fun (m : Nat) => xs[((n : Int) - 1 + (m : Int) * -1).toNat]?) = ((List.range n).map fun k => n - 1 - k).filterMap fun (m : Nat) => xs[m]? := by
    rw [List.filterMap_map]
    have go : ∀ l : List Nat, (∀ m ∈ l, m < n) → (l.filterMap fun (m : Nat) => xs[((n : Int) - 1 + (m : Int) * -1).toNat]?) = l.filterMap ((fun (m : Nat) => xs[m]?) ∘ fun k => n - 1 - k) := fun l => by
      induction l with
      | nil => exact fun _ => rfl
      | cons m l ih =>
        intro hm
        have h1 := hm m (List.mem_cons_self ..)
        have e : ((n : Int) - 1 + (m : Int) * -1).toNat = n - 1 - m := by omega
        rw [List.filterMap_cons, List.filterMap_cons, ih fun k hk => hm k (List.mem_cons_of_mem _ hk), e]; rfl
    exact go _ fun m hm => List.mem_range.mp hm
  subst hn
  rw [e1, PySem.W.krv_range, List.filterMap_reverse, PySem.W.krv_all]
theorem applied_back {sl : Addr} {vk : Value} {n : Nat} {Q : Int × Int × Nat → Shared → Prop} (hs : s.heap.IsSliceOf sl .none .none vk) (pk : IsPart vk (some (-1)))
    (h : Q ((n : Int) - 1, -1, n) s) : wpAny (model prog w) A (Builtin.Slice.sliceApplied (.ref sl) (pure (n : Int))) Q E s := by
  obtain ⟨os, hos, hcs, hds⟩ := id hs
  unfold Builtin.Slice.sliceApplied Builtin.Slice.sliceFields
  refine wpAny_bind (wpAny_bind (wpAny_field hos hds (x := .none) rfl (wpAny_bind (wpAny_field hos hds (x := .none) rfl (wpAny_bind (wpAny_field hos hds (x := vk) rfl (wpAny_pure ?_)))))))
  refine wpAny_bind (HT.slicePart_ pk ?_)
  show wpAny _ _ (if ((-1 : Int) == 0) = true then _ else _) _ _ s
  rw [if_neg (by decide)]
  refine wpAny_bind (slicePart_none (wpAny_bind (slicePart_none (wpAny_bind (wpAny_pure ?_)))))
  have e : Builtin.Slice.sliceAdjust none none (-1) (n : Int) = ((n : Int) - 1, -1) := by
    simp [Builtin.Slice.sliceAdjust]
  have e2 : Builtin.Slice.slicePlaces ((n : Int) - 1) (-1) (-1) = n := by
    unfold Builtin.Slice.slicePlaces
    simp
    split <;> omega
  show wpAny _ _ (match Builtin.Slice.sliceAdjust none none (-1) (n : Int) with | (lo, hi) => pure (lo, (-1 : Int), Builtin.Slice.slicePlaces lo hi (-1))) _ _ s
  rw [e]
  show wpAny _ _ (pure ((n : Int) - 1, (-1 : Int), Builtin.Slice.slicePlaces ((n : Int) - 1) (-1) (-1))) _ _ s
  rw [e2]
  exact wpAny_pure h
theorem item_tuple_back {t sl : Addr} {items : Array Value} {vk : Value} {Q : Value → Shared → Prop} (ht : IsTup s.heap t items) (hs : s.heap.IsSliceOf sl .none .none vk) (pk : IsPart vk (some (-1)))
    (h : Q (.ref s.heap.objs.size) { s with heap := s.heap.push { cls := .type "tuple", data := .seq items.toList.reverse.toArray } })
    (hsz : items.size ≤ sizeLine) : wpAny (model prog w) A (getItem (.ref t) (.ref sl)) Q E s := by
  have hfit : sizeOk (.seq items.toList.reverse.toArray) := by
    show items.toList.reverse.toArray.size ≤ sizeLine
    simp; exact hsz
  obtain ⟨os, hos, hcs, hds⟩ := id hs
  have hTs : s.TypeIs (.ref sl) "slice" := ⟨os, hos, hcs⟩
  unfold getItem
  try with_reducible refine wpAny_holding ?_
  first | refine wpAny_bind (wpAny_pure ?_) | skip
  refine wpAny_bind (wpAny_sequenceKey ht.typeIs (by decide) ?_)
  refine wpAny_bind (wpAny_callSpecial?_slot (name := Str.ofString "__getitem__") ht.typeIs PyProof.Rows.slot_tuple_getitem
    (wpAny_call_entry PyProof.Rows.slot_tuple_getitem ht.typeIs PyProof.Rows.entry_tuple_getitem ?_ (PyProof.Rows.args_tuple_getitem _ _)))
  show wpAny _ _ (Builtin.Tuple.tupleItemsOf (.ref t) >>= _) _ _ s
  refine wpAny_bind (PyProof.Rows.tupleItemsOf_ ht ?_)
  refine wpAny_bind (wpAny_typeOf hTs ?_)
  rw [if_pos (by decide)]
  refine wpAny_bind (applied_back hs pk ?_)
  show wpAny _ _ (if (((items.size : Int) - 1) == 0 && (-1 : Int) == 1 && items.size == items.size) = true then _ else _) _ _ s
  rw [if_neg (by simp), back_range _ _ rfl]
  exact wpAny_bind (m := Builtin.Tuple.tupleExact _) (wpAny_newObj_type (wpAny_pure ⟨_, rfl, wpAny_pure h⟩) hfit)
end
theorem back_str (z : Str) : (Builtin.Str.strSliceIndices none none (-1) z.length).filterMap (z.cps[·]?) = z.cps.toList.reverse := by
  have e : Builtin.Str.strSliceIndices none none (-1) z.length = (List.range z.cps.size).reverse := by
    rw [← PySem.W.krv_range, ← PySem.W.krv_sliceRange]
    rfl
  rw [e, List.filterMap_reverse, PySem.W.krv_all]

/-- x[::-1], by values -/
def RvR (X : Cx) (r : V → Hp → VK → Prop) : Prop :=
  ∀ (pins : List (Addr × Obj)) (s : Shared) (σ : L2.St) (H : Hp) (x : V) (v vk : Value) (sl : Addr) (Q : VK), Inv X pins σ H s → RelV x v → s.heap.IsSliceOf sl .none .none vk → IsPart vk (some (-1)) → r x H Q →
    ∃ T id, typeLookup (.type T) "__getitem__" = pure (some (.builtin id)) ∧ s.TypeIs v T ∧ wpAny (model X.prog X.w) X.A (getItem v (.ref sl)) (EP X pins σ Q) X.xe s
section
variable {X : Cx}
theorem rv_false : RvR X (fun _ _ _ => False) := fun _ _ _ _ _ _ _ _ _ _ _ _ _ h => h.elim
theorem rv_list : RvR X (fun x H Q => ∃ a xs, x = .ref a ∧ SqL X.K H a xs ∧ ∀ q, H q = none → Q (.ref q) (upd H q (.lst xs.reverse))) := by
  intro pins s σ H x v vk sl Q I rx hs pk h
  obtain ⟨a, xs, rfl, hx, q⟩ := h
  cases rx
  obtain ⟨its, r, ht, hz⟩ := I.list hx
  have hlen := r.length
  refine ⟨"list", _, slot_list_getitem.lookup, ht.isList.typeIs, ?_⟩
  refine wpAny_getItem_list_slice ht.isList hs .none .none pk (by decide) ?_ (by rw [List.size_toArray]; omega)
  rw [PySem.W.krv_pick]
  refine ⟨.ref _, _, I.laid (t' := s.toks) (o := .lst xs.reverse) (fun b ob q => Heap.get?_push_of_some _ q) (Nat.le_refl _) ?_, rfl, q _ (I.hok.fresh (Nat.le_refl _))⟩
  exact ⟨by rw [List.length_reverse]; exact hz, _, 0, r.reverse, Heap.get?_push_size _ rfl⟩
theorem rv_tup : RvR X (fun x H Q => ∃ a xs, x = .ref a ∧ SqT X.K H a xs ∧ ∀ q, H q = none → Q (.ref q) (upd H q (.tup xs.reverse))) := by
  intro pins s σ H x v vk sl Q I rx hs pk h
  obtain ⟨a, xs, rfl, hx, q⟩ := h
  cases rx
  obtain ⟨its, r, ht, hz⟩ := I.tuple hx
  have hlen := r.length
  refine ⟨"tuple", _, PyProof.Rows.slot_tuple_getitem.lookup, ht.typeIs, ?_⟩
  refine item_tuple_back ht hs pk ?_ (by rw [List.size_toArray]; omega)
  refine ⟨.ref _, _, I.laid (t' := s.toks) (o := .tup xs.reverse) (fun b ob q => Heap.get?_push_of_some _ q) (Nat.le_refl _) ?_, rfl, q _ (I.hok.fresh (Nat.le_refl _))⟩
  exact ⟨by rw [List.length_reverse]; exact hz, _, r.reverse, IsTup.new _ _⟩
theorem rv_str : RvR X (fun x H Q => ∃ z, x = .str z ∧ z.length ≤ sizeLine ∧ Q (.str ⟨z.cps.toList.reverse.toArray⟩) H) := by
  intro pins s σ H x v vk sl Q I rx hs pk h
  obtain ⟨z, rfl, hz, q⟩ := h
  obtain ⟨t, rfl⟩ := rx
  obtain ⟨os, hos, hcs, hds⟩ := hs
  obtain ⟨k, rfl, ek⟩ := IsPart.raw pk
  refine ⟨"str", _, F.slot_str_getitem.lookup, typeIs_str _ _ _, ?_⟩
  refine wpAny_getItem_str_slice (l := none) (u := none) (st := k) ⟨os, hos, hcs, hds⟩ (by rw [ek]; rfl) ?_
  unfold sliceMade slicePicked
  rw [ek]
  show Made.post (if ((-1 : Int) == 1 && (Builtin.Str.strSliceIndices none none (-1) z.length).length == z.length) = true then Made.val (.str z t)
    else Made.str ⟨((Builtin.Str.strSliceIndices none none (-1) z.length).filterMap (z.cps[·]?)).toArray⟩) (EP X pins σ Q) s
  rw [if_neg (by simp), back_str]
  refine ⟨?_, .str _, H, I.tok _, ⟨_, rfl⟩, q⟩
  show z.cps.toList.reverse.toArray.size ≤ sizeLine
  simp
  exact hz
theorem pe_rev {r : V → Hp → VK → Prop} (hr : RvR X r) {e : Expr} {te : TE} {k : Nat} {p1 p2 p3 pos : Pos} (he : PE X e te) : PE X (.Subscript e (.Slice none none (some (.UnaryOp .USub (.Constant (.int 1) k p1) p2)) p3) pos) (tUn r te) := by
  refine ⟨fun pins s σ H Q I h => ?_⟩
  refine Subscript_ (thn (he.run pins s σ H _ I h) fun v s1 ⟨x, H1, I1, r1, q⟩ => ?_)
  have hst : PO X (some (.UnaryOp .USub (.Constant (.int 1) k p1) p2)) (tPart (tUn (rU fun i => .int (-i)) (tC (.int 1)))) := po_some (pe_un un_neg pe_int)
  refine wpAny_Slice ?_
  rw [evalPart_none]
  refine wpAny_pure (wpAny_pure ?_)
  refine thn (hst.run pins s1 σ H1 (fun o H4 => o = some (-1) ∧ H4 = H1) I1 ⟨1, rfl, -1, rfl, rfl, rfl⟩) fun vs s4 ⟨o, H4, I4, ps, eo, e4⟩ => ?_
  subst eo e4
  have I5 : Inv X pins σ H4 { s4 with heap := s4.heap.push { cls := .type "slice", data := .fields #[.none, .none, vs] } } := I4.kept (t' := s4.toks) fun b ob q => Heap.get?_push_of_some _ q
  obtain ⟨T, id, hT, ht, hg⟩ := hr pins _ σ H4 x v vs s4.heap.objs.size Q I5 r1 (Heap.IsSliceOf.new ..) ps q
  exact tail_any (ops := [v, .ref s4.heap.objs.size]) ht hT hg (by with_unfolding_all rfl)
theorem ok_rev {cl : Nat → Addr} : OkU X.K cl (fun r => RvR X r) revD := by
  intro d c h
  unfold revD at h
  split at h
  · cases h
    refine ⟨_, rv_tup, fun x H Q O hO rx q => ?_⟩
    obtain ⟨a, vs, rfl, ha, qa⟩ := rx.tup
    refine ⟨a, vs, rfl, ha, fun t ht => ?_⟩
    have s := same_upd (o := .tup vs.reverse) ht
    exact q _ _ s (.tup (.inl upd_same) (nodom hO ht) (qa.reverse.same s))
  · cases h
    refine ⟨_, rv_list, fun x H Q O hO rx q => ?_⟩
    obtain ⟨a, vs, rfl, ha, qa⟩ := rx.lst
    refine ⟨a, vs, rfl, SqL.of ha, fun t ht => ?_⟩
    have s := same_upd (o := .lst vs.reverse) ht
    exact q _ _ s (.lst upd_same (nodom hO ht) (qa.reverse.same s))
  · split at h
    · rename_i hf
      cases h
      refine ⟨_, rv_str, fun x H Q O hO rx q => ?_⟩
      cases rx.str
      exact ⟨_, rfl, of_decide_eq_true hf, q _ _ (Same.refl H) (.str _)⟩
    · cases h
  · cases h
variable {p : Pr} {W : WX} {G : List D} {cf : Nat → List D → C}
theorem s_rev (hK : X.K = p.K) {a : Ex} {xa : Expr} {k : Nat} {p1 p2 p3 pos : Pos} (ha : SE p W X G cf a xa) : SE p W X G cf (.rev a) (.Subscript xa (.Slice none none (some (.UnaryOp .USub (.Constant (.int 1) k p1) p2)) p3) pos) := fun ρ => by
  simp only [evE]
  exact one (good := fun r => RvR X r) (fun r ta g h1 => pe_rev g h1) rv_false revD (hK ▸ ok_rev (X := X)) ha rfl ρ
end
end PD
end

section
set_option Elab.async false
set_option linter.all false
set_option maxRecDepth 100000
set_option maxHeartbeats 1000000
/-! PD6: calls of built-ins, methods, isinstance, dicts of the module -/
namespace PD
open PySem PySem.Spec PyProof.Rows L2

section
variable {p : Pr} {W : WX} {X : Cx} {G : List D} {cf : Nat → List D → C}

/-! ### built-in functions of one value -/
def GB (X : Cx) (f : Value) (r : V → Hp → VK → Prop) : Prop := CallR X f fun xs H Q => ∃ x, xs = [x] ∧ r x H Q
theorem GB.of {f : Value} {r : List V → Hp → VK → Prop} {r1 : V → Hp → VK → Prop} (h : CallR X f r) (i : ∀ x H Q, r1 x H Q → r [x] H Q) : GB X f r1 := fun pins s σ H xs us Q I rv q => by
  obtain ⟨x, rfl, q⟩ := q
  exact h pins s σ H _ us Q I rv (i _ _ _ q)
theorem one_x {r : V → Hp → VK → Prop} {Q : VK} : (fun x H1 => ∃ y, [x] = [y] ∧ r y H1 Q) = fun x H1 => r x H1 Q := by
  funext x H1
  simp
/-- how a name is called: a built-in function or a type -/
structure BName (X : Cx) (x : Str) (f : Value) : Prop where
  hg : Gl X x
  hm : X.mg x = none
  hv : bootBuiltins x = some f
  hn : x ≠ "__name__"
  hdb : (x == ("__debug__" : Str)) = false
theorem call1 {id : String} {x : Str} {e : Expr} {p1 pos : Pos} (b : BName X x (.builtin id)) (he : starEach [e] X.env = (false, eval e X.env) :: starEach [] X.env) (hpl : (backTo pos (starEach [] X.env)).any (·.1) = false) (r : V → Hp → VK → Prop) (ta : TE) (g : GB X (.builtin id) r) (h : PE X e ta) :
    PE X (.Call (.Name x p1) [e] [] pos) (tUn r ta) :=
  pe_imp (pe_callB g b.hg b.hm b.hv (pa_cons h pa_nil he) b.hn b.hdb he hpl) fun σ H Q q => by
    show ta σ H fun x H1 => ∃ y, [x] = [y] ∧ r y H1 Q
    rw [one_x]
    exact q
theorem call1T {T : String} {x : Str} {e : Expr} {p1 pos : Pos} (b : BName X x (.type T)) (he : starEach [e] X.env = (false, eval e X.env) :: starEach [] X.env) (hpl : (backTo pos (starEach [] X.env)).any (·.1) = false) (r : V → Hp → VK → Prop) (ta : TE) (g : GB X (.type T) r) (h : PE X e ta) :
    PE X (.Call (.Name x p1) [e] [] pos) (tUn r ta) :=
  pe_imp (pe_callTy g b.hg b.hm b.hv (pa_cons h pa_nil he) b.hn b.hdb he hpl) fun σ H Q q => by
    show ta σ H fun x H1 => ∃ y, [x] = [y] ∧ r y H1 Q
    rw [one_x]
    exact q
theorem gb_false {f : Value} : GB X f (fun _ _ _ => False) := fun _ _ _ _ _ _ _ _ _ h => by
  obtain ⟨_, _, h⟩ := h
  exact h.elim
def b1V : B1 → Value
  | .len => .builtin "len" | .abs => .builtin "abs" | .int => .type "int" | .str => .type "str" | .repr => .builtin "repr" | .all => .builtin "all" | .any => .builtin "any"
  | .sorted => .builtin "sorted" | .tuple => .type "tuple" | .list => .type "list" | .sum => .builtin "sum" | .max => .builtin "max" | .min => .builtin "min" | .sset => .none
def b1N : B1 → Str
  | .len => "len" | .abs => "abs" | .int => "int" | .str => "str" | .repr => "repr" | .all => "all" | .any => "any"
  | .sorted => "sorted" | .tuple => "tuple" | .list => "list" | .sum => "sum" | .max => "max" | .min => "min" | .sset => ""
theorem bls_vals {K : PySem.W.Frag} {cl : Nat → Addr} {H : Hp} {O : Addr → Prop} : ∀ {xs : List D} {bs : List Bool} {vs : List V}, blsD xs = some bs → RepA K cl H O vs xs → vs = bs.map V.bl
  | [], _, _, e, r => by cases r; cases e; rfl
  | .bl b :: xs, bs, _, e, r => by
    simp only [blsD] at e
    cases z : blsD xs with
    | none => rw [z] at e; cases e
    | some cs =>
      rw [z] at e; cases e
      cases r with
      | cons r1 r2 =>
        cases r1
        rw [bls_vals z r2]; rfl
  | .non :: _, _, _, e, _ => by simp [blsD] at e
  | .int _ :: _, _, _, e, _ => by simp [blsD] at e
  | .str _ :: _, _, _, e, _ => by simp [blsD] at e
  | .tup _ :: _, _, _, e, _ => by simp [blsD] at e
  | .lst _ :: _, _, _, e, _ => by simp [blsD] at e
  | .dct _ _ :: _, _, _, e, _ => by simp [blsD] at e
  | .scr _ :: _, _, _, e, _ => by simp [blsD] at e
  | .obj _ _ :: _, _, _, e, _ => by simp [blsD] at e
theorem strs_vals {K : PySem.W.Frag} {cl : Nat → Addr} {H : Hp} {O : Addr → Prop} : ∀ {xs : List D} {bs : List Str} {vs : List V}, strsD xs = some bs → RepA K cl H O vs xs → vs = bs.map V.str
  | [], _, _, e, r => by cases r; cases e; rfl
  | .str b :: xs, bs, _, e, r => by
    simp only [strsD] at e
    cases z : strsD xs with
    | none => rw [z] at e; cases e
    | some cs =>
      rw [z] at e; cases e
      cases r with
      | cons r1 r2 =>
        cases r1
        rw [strs_vals z r2]; rfl
  | .non :: _, _, _, e, _ => by simp [strsD] at e
  | .int _ :: _, _, _, e, _ => by simp [strsD] at e
  | .bl _ :: _, _, _, e, _ => by simp [strsD] at e
  | .tup _ :: _, _, _, e, _ => by simp [strsD] at e
  | .lst _ :: _, _, _, e, _ => by simp [strsD] at e
  | .dct _ _ :: _, _, _, e, _ => by simp [strsD] at e
  | .scr _ :: _, _, _, e, _ => by simp [strsD] at e
  | .obj _ _ :: _, _, _, e, _ => by simp [strsD] at e
theorem RepA.strs {K : PySem.W.Frag} {cl : Nat → Addr} {H : Hp} {O : Addr → Prop} : ∀ (ns : List Str), RepA K cl H O (ns.map V.str) (ns.map D.str)
  | [] => .nil
  | n :: ns => .cons (.str n) (RepA.strs ns)
theorem len_v {K : PySem.W.Frag} {cl : Nat → Addr} {H : Hp} {O : Addr → Prop} {v : V} {d : D} {n : Nat} (e : lenD d = some n) (r : RepB K cl H O v d) : LenV K v H n := by
  unfold lenD at e
  split at e
  · split at e
    · rename_i hf
      cases e
      rw [r.str]
      exact ⟨of_decide_eq_true hf, rfl⟩
    · cases e
  · cases e
    obtain ⟨a, vs, rfl, ha, q⟩ := r.tup
    exact .inr ⟨vs, ha, q.length.symm⟩
  · cases e
    obtain ⟨a, vs, rfl, ha, q⟩ := r.lst
    exact .inl ⟨vs, SqL.of ha, q.length.symm⟩
  · cases e
    obtain ⟨a, rfl, ha⟩ := r.scr
    exact .inl ⟨_, ha, by rw [List.length_map]⟩
  · cases e
theorem ok_b1 {cl : Nat → Addr} (hc : X.calm = true) (b : B1) (hb : b ≠ .repr) (hb2 : b ≠ .sset) (hb3 : b ≠ .sorted) : OkU X.K cl (GB X (b1V b)) (b1D b) := by
  intro d c h
  unfold b1D at h
  split at h
  · rename_i d'
    cases e : lenD d with
    | none => rw [e] at h; cases h
    | some n =>
      rw [e] at h; cases h
      refine ⟨fun x H Q => ∃ n, LenV X.K x H n ∧ Q (.int n) H, GB.of call_len fun x H Q q => ?_, fun x H Q O hO rx q => ⟨n, len_v e rx, q _ _ (Same.refl H) (.int _)⟩⟩
      obtain ⟨n, h1, h2⟩ := q
      exact ⟨x, n, rfl, h1, h2⟩
  · cases h
    rename_i i
    refine ⟨fun x H Q => x = .int i ∧ Q (.int (if i < 0 then -i else i)) H, GB.of call_abs fun x H Q q => ?_, fun x H Q O hO rx q => ⟨rx.int, q _ _ (Same.refl H) (.int _)⟩⟩
    obtain ⟨rfl, q⟩ := q
    exact ⟨_, rfl, q⟩
  · cases h
    rename_i i
    refine ⟨fun x H Q => x = .int i ∧ Q (.int i) H, GB.of call_int1 fun x H Q q => ?_, fun x H Q O hO rx q => ⟨rx.int, q _ _ (Same.refl H) (.int _)⟩⟩
    obtain ⟨rfl, q⟩ := q
    exact .inl ⟨_, rfl, q⟩
  · cases h
    rename_i i
    refine ⟨fun x H Q => x = .bl i ∧ Q (.int (if i then 1 else 0)) H, GB.of call_int1 fun x H Q q => ?_, fun x H Q O hO rx q => ⟨rx.bl, q _ _ (Same.refl H) (.int _)⟩⟩
    obtain ⟨rfl, q⟩ := q
    exact .inr ⟨_, rfl, q⟩
  · rename_i i
    split at h
    · rename_i hf
      cases h
      refine ⟨fun x H Q => x = .int i ∧ Q (.str (toString i)) H, GB.of call_str_int fun x H Q q => ?_, fun x H Q O hO rx q => ⟨rx.int, q _ _ (Same.refl H) (.str _)⟩⟩
      obtain ⟨rfl, q⟩ := q
      exact ⟨_, rfl, of_decide_eq_true hf, q⟩
    · cases h
  · rename_i xs
    cases e : blsD xs with
    | none => rw [e] at h; cases h
    | some bs =>
      rw [e] at h; cases h
      refine ⟨fun x H Q => ∃ a, x = .ref a ∧ SqL X.K H a (bs.map V.bl) ∧ Q (.bl (bs.all id)) H, GB.of (cr_all hc) fun x H Q q => ?_, fun x H Q O hO rx q => ?_⟩
      · obtain ⟨a, rfl, h1, h2⟩ := q
        exact ⟨a, bs, rfl, h1, h2⟩
      · obtain ⟨a, vs, rfl, ha, qa⟩ := rx.lst
        exact ⟨a, rfl, (bls_vals e qa) ▸ SqL.of ha, q _ _ (Same.refl H) (.bl _)⟩
  · rename_i xs
    cases e : blsD xs with
    | none => rw [e] at h; cases h
    | some bs =>
      rw [e] at h; cases h
      refine ⟨fun x H Q => ∃ a, x = .ref a ∧ SqL X.K H a (bs.map V.bl) ∧ Q (.bl (bs.any id)) H, GB.of (cr_any hc) fun x H Q q => ?_, fun x H Q O hO rx q => ?_⟩
      · obtain ⟨a, rfl, h1, h2⟩ := q
        exact ⟨a, bs, rfl, h1, h2⟩
      · obtain ⟨a, vs, rfl, ha, qa⟩ := rx.lst
        exact ⟨a, rfl, (bls_vals e qa) ▸ SqL.of ha, q _ _ (Same.refl H) (.bl _)⟩
  · cases h
    rename_i xs
    refine ⟨fun x H Q => ∃ a ys, x = .ref a ∧ SqL X.K H a ys ∧ ∀ l, H l = none → Q (.ref l) (upd H l (.tup ys)), GB.of call_tuple_of fun x H Q q => ?_, fun x H Q O hO rx q => ?_⟩
    · obtain ⟨a, ys, rfl, h1, h2⟩ := q
      exact ⟨a, ys, rfl, .inl ⟨h1, h2⟩⟩
    · obtain ⟨a, vs, rfl, ha, qa⟩ := rx.lst
      refine ⟨a, vs, rfl, SqL.of ha, fun t ht => ?_⟩
      have s := same_upd (o := .tup vs) ht
      exact q _ _ s (.tup (.inl upd_same) (nodom hO ht) (qa.same s))
  · cases h
    rename_i xs
    refine ⟨fun x H Q => ∃ a ys, x = .ref a ∧ SqT X.K H a ys ∧ Q (.ref a) H, GB.of call_tuple_of fun x H Q q => ?_, fun x H Q O hO rx q => ?_⟩
    · obtain ⟨a, ys, rfl, h1, h2⟩ := q
      exact ⟨a, ys, rfl, .inr ⟨h1, h2⟩⟩
    · have r2 := rx.tupRep
      obtain ⟨a, vs, rfl, ha, qa⟩ := rx.tup
      exact ⟨a, vs, rfl, ha, q _ _ (Same.refl H) r2⟩
  · cases h
    rename_i xs
    refine ⟨fun x H Q => ∃ a ys, x = .ref a ∧ (SqL X.K H a ys ∨ SqT X.K H a ys) ∧ ∀ l, H l = none → Q (.ref l) (upd H l (.lst ys)), GB.of call_list_of fun x H Q q => ?_, fun x H Q O hO rx q => ?_⟩
    · obtain ⟨a, ys, rfl, h1, h2⟩ := q
      exact ⟨a, ys, rfl, h1, h2⟩
    · obtain ⟨a, vs, rfl, ha, qa⟩ := rx.tup
      refine ⟨a, vs, rfl, .inr ha, fun t ht => ?_⟩
      have s := same_upd (o := .lst vs) ht
      exact q _ _ s (.lst upd_same (nodom hO ht) (qa.same s))
  · cases h
    rename_i xs
    refine ⟨fun x H Q => ∃ a ys, x = .ref a ∧ (SqL X.K H a ys ∨ SqT X.K H a ys) ∧ ∀ l, H l = none → Q (.ref l) (upd H l (.lst ys)), GB.of call_list_of fun x H Q q => ?_, fun x H Q O hO rx q => ?_⟩
    · obtain ⟨a, ys, rfl, h1, h2⟩ := q
      exact ⟨a, ys, rfl, h1, h2⟩
    · obtain ⟨a, vs, rfl, ha, qa⟩ := rx.lst
      refine ⟨a, vs, rfl, .inl (SqL.of ha), fun t ht => ?_⟩
      have s := same_upd (o := .lst vs) ht
      exact q _ _ s (.lst upd_same (nodom hO ht) (qa.same s))
  · exact (hb3 rfl).elim
  · exact (hb2 rfl).elim
  · exact (hb rfl).elim
  · cases h
theorem s_b1B (hK : X.K = p.K) (hc : X.calm = true) {b : B1} {a : Ex} {xa : Expr} {id : String} {p1 pos : Pos} (hr : b ≠ .repr) (hr2 : b ≠ .sset) (hr3 : b ≠ .sorted) (hb : b1V b = .builtin id) (bn : BName X (b1N b) (.builtin id)) (ha : SE p W X G cf a xa)
    (he : starEach [xa] X.env = (false, eval xa X.env) :: starEach [] X.env) (hpl : (backTo pos (starEach [] X.env)).any (·.1) = false) : SE p W X G cf (.b1 b a) (.Call (.Name (b1N b) p1) [xa] [] pos) := fun ρ => by
  simp only [evE]
  exact one (good := GB X (.builtin id)) (fun r ta g h1 => call1 bn he hpl r ta g h1) gb_false (b1D b) (hb ▸ hK ▸ ok_b1 (X := X) hc b hr hr2 hr3) ha rfl ρ
theorem s_b1T (hK : X.K = p.K) (hc : X.calm = true) {b : B1} {a : Ex} {xa : Expr} {id : String} {p1 pos : Pos} (hr : b ≠ .repr) (hr2 : b ≠ .sset) (hr3 : b ≠ .sorted) (hb : b1V b = .type id) (bn : BName X (b1N b) (.type id)) (ha : SE p W X G cf a xa)
    (he : starEach [xa] X.env = (false, eval xa X.env) :: starEach [] X.env) (hpl : (backTo pos (starEach [] X.env)).any (·.1) = false) : SE p W X G cf (.b1 b a) (.Call (.Name (b1N b) p1) [xa] [] pos) := fun ρ => by
  simp only [evE]
  exact one (good := GB X (.type id)) (fun r ta g h1 => call1T bn he hpl r ta g h1) gb_false (b1D b) (hb ▸ hK ▸ ok_b1 (X := X) hc b hr hr2 hr3) ha rfl ρ

/-! ### methods -/
def GM0 (X : Cx) (id : String) (r : V → Hp → VK → Prop) : Prop := MtR X id fun x xs H Q => xs = [] ∧ r x H Q
def GM1 (X : Cx) (id : String) (r : R2) : Prop := MtR X id fun x xs H Q => ∃ y, xs = [y] ∧ r x y H Q
def tOpP (P : V → Hp → Prop) (r : R2) (ta tb : TE) : TE := fun σ H Q => ta σ H fun x H1 => P x H1 ∧ tb σ H1 fun y H2 => r x y H2 Q
def tUnP (P : V → Hp → Prop) (r : V → Hp → VK → Prop) (ta : TE) : TE := fun σ H Q => ta σ H fun x H1 => P x H1 ∧ r x H1 Q
structure MSl (T : String) (name : Str) (id : String) : Prop where
  pa : PlainAttrs T
  slot : Slot T name id
  ty : typeOf (.builtin id) = pure (.type "method_descriptor")
theorem meth0 {T id : String} {name : Str} {o : Expr} {apos cpos : Pos} (m : MSl T name id) (hb : attributeBase o name X.env (eval o X.env) = eval o X.env) (hl : (apos.endLine == cpos.line) = true) (r : V → Hp → VK → Prop) (ta : TE) (g : GM0 X id r) (h : PE X o ta) :
    PE X (.Call (.Attribute o name apos) [] [] cpos) (tUnP (tyV X.K T) r ta) :=
  pe_imp (pe_bm0 m.pa m.slot m.ty g h hb hl) fun σ H Q q => by
    show ta σ H fun x H1 => tyV X.K T x H1 ∧ (([] : List V) = [] ∧ r x H1 Q)
    simpa [tUnP] using q
theorem meth1 {T id : String} {name : Str} {o e : Expr} {apos cpos : Pos} (m : MSl T name id) (m1 : M1 X o name apos e cpos) (hs : starEach [e] X.env = (false, eval e X.env) :: starEach [] X.env) (hpl : (backTo cpos (starEach [] X.env)).any (·.1) = false) (r : R2) (ta tb : TE) (g : GM1 X id r) (h : PE X o ta) (he : PE X e tb) :
    PE X (.Call (.Attribute o name apos) [e] [] cpos) (tOpP (tyV X.K T) r ta tb) :=
  pe_imp (pe_bm m.pa m.slot m.ty g h (pa_cons he pa_nil hs) m1.base m1.few m1.line hs hpl) fun σ H Q q => by
    show ta σ H fun x H1 => tyV X.K T x H1 ∧ tb σ H1 fun y H2 => ∃ z, [y] = [z] ∧ r x z H2 Q
    have e : ∀ x, (fun y H2 => ∃ z, [y] = [z] ∧ r x z H2 Q) = fun y H2 => r x y H2 Q := fun x => by
      funext y H2
      simp
    simp only [e]
    exact q
theorem tyV_of {K : PySem.W.Frag} {cl : Nat → Addr} {H : Hp} {O : Addr → Prop} {T : String} {v : V} {d : D} (h : tyD T d = true) (r : PD.Rep K cl H O v d) : tyV K T v H := by
  cases r with
  | str s =>
    have h : decide (T = "str") = true := h
    exact (of_decide_eq_true h : T = "str")
  | lst e n r =>
    have h : decide (T = "list") = true := h
    exact .inl ⟨of_decide_eq_true h, _, SqL.of e⟩
  | _ => cases h
theorem twoP {T : String} {good : R2 → Prop} {x xa xb : Expr} {a b e0 : Ex} (mk : ∀ r ta tb, good r → PE X xa ta → PE X xb tb → PE X x (tOpP (tyV X.K T) r ta tb)) (g0 : good (fun _ _ _ _ => False)) (f : D → D → Option D) (hK : X.K = p.K) (ok : OkOp p.K p.cl good f)
    (ha : SE p W X G cf a xa) (na : isBor a = none) (hb : SE p W X G cf b xb) (n : isBor e0 = none) (ρ : Env) :
    PE X x (tE p W e0 ρ ((evE G cf a ρ).bind fun d ρ1 => if tyD T d = false then .no else (evE G cf b ρ1).bind fun e ρ2 => match fx a d ρ2, fx b e ρ2 with
      | some d', some e' => ofO (f d' e') ρ2
      | _, _ => .no)) := by
  have pa := ha ρ
  cases ea : evE G cf a ρ with
  | no => exact pe_no
  | ex c fs ρ1 =>
    rw [ea] at pa
    exact pe_imp (mk _ _ _ g0 pa (pe_void (t := fun _ _ _ => False) fun _ _ _ z => z)) fun σ H Q h => h
  | ok d ρ1 =>
    rw [ea] at pa
    simp only [R.bind]
    cases hd : tyD T d with
    | false =>
      rw [if_pos rfl]
      exact pe_no
    | true =>
    rw [if_neg (by decide)]
    have pb := hb ρ1
    cases eb : evE G cf b ρ1 with
    | no => exact pe_no
    | ex c fs ρ2 =>
      rw [eb] at pb
      refine pe_imp (mk _ _ _ g0 pa pb) fun σ H Q h => ?_
      obtain ⟨Wr, r, k⟩ := h
      exact ⟨Wr, r, fun v H1 r1 f1 w1 => ⟨hK ▸ tyV_of hd (w1.rep na), Wr, r1, k.step f1⟩⟩
    | ok e ρ2 =>
      rw [eb] at pb
      simp only
      cases e1 : fx a d ρ2 with
      | none => exact pe_no
      | some d' =>
        cases e2 : fx b e ρ2 with
        | none => exact pe_no
        | some e' =>
          cases e3 : f d' e' with
          | none => simp only [e3, ofO]; exact pe_no
          | some c =>
            obtain ⟨r, g, k⟩ := ok d' e' c e3
            refine pe_imp (mk r _ _ g pa pb) fun σ H Q h => ?_
            obtain ⟨Wr, rl, q⟩ := h
            refine ⟨Wr, rl, fun v H1 r1 f1 w1 => ⟨hK ▸ tyV_of hd (w1.rep na), Wr, r1, fun u H2 r2 f2 w2 => ?_⟩⟩
            exact k v u H2 Q (p.O Wr) r2.dom (w1.at r2 f2 e1) (w2.at r2 Fr.refl e2) (fin_ok r2 ((q.step f1).step f2) e3 n)
def mN : Mt → Str
  | .split => "split" | .join => "join" | .strip => "strip" | .upper => "upper" | .index => "index" | .get => "get"
def mI : Mt → String
  | .split => "str.split" | .join => "str.join" | .strip => "str.strip" | .upper => "str.upper" | .index => "list.index" | .get => "dict.get"
theorem msl (m : Mt) (h : m ≠ .get) : MSl (mT m) (mN m) (mI m) := by
  cases m
  · exact ⟨F.plainAttrs_str, F.slot_str_split, F.type_str_split⟩
  · exact ⟨F.plainAttrs_str, F.slot_str_join, F.type_str_join⟩
  · exact ⟨F.plainAttrs_str, F.slot_str_strip, F.type_str_strip⟩
  · exact ⟨F.plainAttrs_str, F.slot_str_upper, F.type_str_upper⟩
  · exact ⟨F.plainAttrs_list, F.slot_list_index, F.type_list_index⟩
  · exact (h rfl).elim
theorem gm1_false {id : String} : GM1 X id (fun _ _ _ _ => False) := fun _ _ _ _ _ _ _ _ _ _ _ _ h => by
  obtain ⟨_, _, h⟩ := h
  exact h.elim
theorem gm0_false {id : String} : GM0 X id (fun _ _ _ => False) := fun _ _ _ _ _ _ _ _ _ _ _ _ h => h.2.elim
theorem GM1.of {id : String} {r : V → List V → Hp → VK → Prop} {r1 : R2} (h : MtR X id r) (i : ∀ x y H Q, r1 x y H Q → r x [y] H Q) : GM1 X id r1 := fun pins s σ H x xs v us Q I rv rs q => by
  obtain ⟨y, rfl, q⟩ := q
  exact h pins s σ H _ _ v us Q I rv rs (i _ _ _ _ q)
theorem GM0.of {id : String} {r : V → List V → Hp → VK → Prop} {r1 : V → Hp → VK → Prop} (h : MtR X id r) (i : ∀ x H Q, r1 x H Q → r x [] H Q) : GM0 X id r1 := fun pins s σ H x xs v us Q I rv rs q => by
  obtain ⟨rfl, q⟩ := q
  exact h pins s σ H _ _ v us Q I rv rs (i _ _ _ q)
theorem idxS_some : ∀ {ys : List Str} {z : Str} {j : Nat}, idxS ys z = some j → ys[j]? = some z ∧ ∀ m, m < j → ys[m]? ≠ some z
  | [], _, _, h => by simp [idxS] at h
  | y :: ys, z, j, h => by
    unfold idxS at h
    by_cases e : y = z
    · rw [if_pos e] at h
      cases h
      exact ⟨by simp [e], fun m hm => absurd hm (Nat.not_lt_zero _)⟩
    · rw [if_neg e] at h
      cases q : idxS ys z with
      | none => rw [q] at h; cases h
      | some i =>
        rw [q] at h; cases h
        obtain ⟨h1, h2⟩ := idxS_some q
        refine ⟨by simpa using h1, fun m hm => ?_⟩
        cases m with
        | zero => simpa using e
        | succ m => simpa using h2 m (Nat.lt_of_succ_lt_succ hm)
theorem ok_m1 {cl : Nat → Addr} (hu : X.A.units + 70 < cLine) (m : Mt) : OkOp X.K cl (GM1 X (mI m)) (m1D m) := by
  intro d e c h
  unfold m1D at h
  split at h
  · rename_i a b
    split at h
    · rename_i hf
      cases h
      simp only [Bool.and_eq_true, decide_eq_true_eq] at hf
      refine ⟨fun x y H Q => x = .str a ∧ y = .str b ∧ rNewStrs (Txt.split a b) H Q, GM1.of mt_split fun x y H Q q => ?_, fun x y H Q O hO rx ry q => ⟨rx.str, ry.str, fun t ht => ?_⟩⟩
      · obtain ⟨rfl, rfl, q⟩ := q
        exact ⟨_, _, rfl, rfl, hf.1, of_decide_eq_true hf.2, q⟩
      · have s := same_upd (o := .lst ((Txt.split a b).map V.str)) ht
        exact q _ _ s (.lst upd_same (nodom hO ht) (RepA.strs _))
    · cases h
  · rename_i a xs
    split at h
    · rename_i ys e
      split at h
      · rename_i hf
        cases h
        refine ⟨fun x y H Q => x = .str a ∧ ∃ l, y = .ref l ∧ SqL X.K H l (ys.map V.str) ∧ Q (.str (Txt.join a ys)) H, GM1.of mt_join fun x y H Q q => ?_, fun x y H Q O hO rx ry q => ⟨rx.str, ?_⟩⟩
        · obtain ⟨rfl, l, rfl, h1, h2⟩ := q
          exact ⟨_, l, ys, rfl, rfl, .inl h1, of_decide_eq_true hf, h2⟩
        · obtain ⟨l, vs, rfl, ha, qa⟩ := ry.lst
          exact ⟨l, rfl, (strs_vals e qa) ▸ SqL.of ha, q _ _ (Same.refl H) (.str _)⟩
      · cases h
    · cases h
  · rename_i a b
    split at h
    · rename_i hf
      cases h
      refine ⟨fun x y H Q => x = .str a ∧ y = .str b ∧ Q (.str (Txt.stripChars a b)) H, GM1.of mt_stripChars fun x y H Q q => ?_, fun x y H Q O hO rx ry q => ⟨rx.str, ry.str, q _ _ (Same.refl H) (.str _)⟩⟩
      obtain ⟨rfl, rfl, q⟩ := q
      exact ⟨_, _, rfl, rfl, of_decide_eq_true hf, q⟩
    · cases h
  · rename_i xs e
    unfold idxD at h
    split at h
    · rename_i _ _ ys z ey
      cases ei : idxS ys z with
      | none => rw [ei] at h; cases h
      | some j =>
        rw [ei] at h; cases h
        obtain ⟨h1, h2⟩ := idxS_some ei
        refine ⟨fun x y H Q => y = .str z ∧ ∃ l, x = .ref l ∧ SqL X.K H l (ys.map V.str) ∧ Q (.int (j : Nat)) H, GM1.of mt_index fun x y H Q q => ?_, fun x y H Q O hO rx ry q => ⟨ry.str, ?_⟩⟩
        · obtain ⟨rfl, l, rfl, h3, h4⟩ := q
          refine ⟨l, ys.map V.str, .str z, j, .str z, rfl, rfl, h3, rfl, ?_, ?_, ?_, ?_, h4⟩
          · refine List.all_eq_true.mpr fun v hv => ?_
            obtain ⟨y, _, rfl⟩ := List.mem_map.mp hv
            rfl
          · rw [List.getElem?_map, h1]; rfl
          · simp [eqV]
          · intro m v hm hv
            rw [List.getElem?_map] at hv
            cases em : ys[m]? with
            | none => rw [em] at hv; cases hv
            | some y =>
              rw [em] at hv
              cases hv
              have := h2 m hm
              simp only [eqV]
              rw [em] at this
              simpa using this
        · obtain ⟨l, vs, rfl, ha, qa⟩ := rx.lst
          exact ⟨l, rfl, (strs_vals ey qa) ▸ SqL.of ha, q _ _ (Same.refl H) (.int _)⟩
    · cases h
  · cases h
theorem s_m1 (hK : X.K = p.K) (hu : X.A.units + 70 < cLine) {m : Mt} {a b : Ex} {xa xb : Expr} {apos cpos : Pos} (hm : m ≠ .get) (ha : SE p W X G cf a xa) (na : isBor a = none) (hb : SE p W X G cf b xb) (m1 : M1 X xa (mN m) apos xb cpos)
    (hs : starEach [xb] X.env = (false, eval xb X.env) :: starEach [] X.env) (hpl : (backTo cpos (starEach [] X.env)).any (·.1) = false) : SE p W X G cf (.m1 m a b) (.Call (.Attribute xa (mN m) apos) [xb] [] cpos) := fun ρ => by
  simp only [evE]
  exact twoP (T := mT m) (good := GM1 X (mI m)) (fun r ta tb g h1 h2 => meth1 (msl m hm) m1 hs hpl r ta tb g h1 h2) gm1_false (m1D m) hK (hK ▸ ok_m1 (X := X) hu m) ha na hb rfl ρ
theorem s_up (hK : X.K = p.K) {a : Ex} {xa : Expr} {apos cpos : Pos} (ha : SE p W X G cf a xa) (na : isBor a = none) (hb : attributeBase xa "upper" X.env (eval xa X.env) = eval xa X.env) (hl : (apos.endLine == cpos.line) = true) :
    SE p W X G cf (.m0 .upper a) (.Call (.Attribute xa "upper" apos) [] [] cpos) := fun ρ => by
  have pa := ha ρ
  simp only [evE]
  cases ea : evE G cf a ρ with
  | no => exact pe_no
  | ex c fs ρ1 =>
    rw [ea] at pa
    exact pe_imp (meth0 (msl .upper nofun) hb hl _ _ gm0_false pa) fun σ H Q h => h
  | ok d ρ1 =>
    rw [ea] at pa
    simp only [R.bind]
    cases e3 : m0D .upper d with
    | none => exact pe_no
    | some c =>
      unfold m0D at e3
      split at e3
      · rename_i _ _ z _
        split at e3
        · rename_i hf
          refine pe_imp (meth0 (msl .upper nofun) hb hl (fun x H Q => x = .str z ∧ Q (.str (Txt.upper z)) H) _ (GM0.of mt_upper fun x H Q q => ⟨z, q.1, rfl, of_decide_eq_true hf, q.2⟩) pa) fun σ H Q h => ?_
          obtain ⟨Wr, r, k⟩ := h
          refine ⟨Wr, r, fun v H1 r1 f1 w1 => ?_⟩
          have w := w1.rep na
          cases w
          cases e3
          exact ⟨rfl, rfl, k _ H1 r1 f1 (Val.of (p := p) (.str _) rfl)⟩
        · cases e3
      · cases e3

/-! ### isinstance -/
def tyS : Ty → String
  | .int => "int" | .str => "str" | .bool => "bool" | .tuple => "tuple" | .list => "list" | .dict => "dict"
def tyP (X : Cx) : Ty → Str
  | .int => "int" | .str => "str" | .bool => "bool" | .tuple => "tuple" | .list => "list" | .dict => "dict"
def tagD : D → Option String
  | .non => some "NoneType" | .bl _ => some "bool" | .int _ => some "int" | .str _ => some "str" | .tup _ => some "tuple" | .lst _ => some "list" | .dct _ _ => some "dict" | _ => none
theorem kitB_all (d : D) (t : Ty) (b : Bool) (h : isiD d t = some b) : ∃ g, tagD d = some g ∧ kitB g (tyS t) = some b := by
  cases d <;> cases t <;> simp only [isiD] at h <;> cases h <;> refine ⟨_, rfl, ?_⟩ <;> decide +kernel
theorem tyX_of {K : PySem.W.Frag} {cl : Nat → Addr} {H : Hp} {O : Addr → Prop} {v : V} {d : D} {g : String} (h : tagD d = some g) (r : RepB K cl H O v d) : TyX K H v (.type g) := by
  cases d with
  | non => cases h; rw [r.non]; exact .base .non
  | bl b => cases h; rw [r.bl]; exact .base (.bl b)
  | int b => cases h; rw [r.int]; exact .base (.int b)
  | str b => cases h; rw [r.str]; exact .base (.str b)
  | tup xs =>
    cases h
    rcases r with r | ⟨a, rfl, r⟩
    · cases r with
      | tup e _ _ =>
        rcases e with e | ⟨o, e⟩
        · exact .base (.tup e)
        · exact .fTuple e
      | tupK e _ =>
        obtain ⟨o, its, n, h1, h2, _⟩ := e
        exact .kTuple h1 h2
    · cases r
  | lst xs =>
    cases h
    obtain ⟨a, vs, rfl, ha, _⟩ := r.lst
    exact .base (.lst ha)
  | dct t kvs =>
    cases h
    rcases r with r | ⟨a, rfl, r⟩ <;> cases r
    · exact .base (.dK (by assumption))
    · exact .base (.dT (by assumption))
    · exact .base (.dK (by assumption))
    · exact .base (.dT (by assumption))
  | fz _ => cases h
  | scr _ => cases h
  | obj _ _ => cases h
theorem s_isi (hK : X.K = p.K) {a : Ex} {t : Ty} {xa : Expr} {x : Str} {p1 p2 pos : Pos} (ha : SE p W X G cf a xa) (bn : BName X "isinstance" (.builtin "isinstance")) (bt : BName X x (.type (tyS t)))
    (h1 : starEach [xa, .Name x p2] X.env = (false, eval xa X.env) :: starEach [.Name x p2] X.env) (h2 : starEach [.Name x p2] X.env = (false, eval (.Name x p2) X.env) :: starEach [] X.env) (hpl : (backTo pos (starEach [.Name x p2] X.env)).any (·.1) = false) :
    SE p W X G cf (.isi a t) (.Call (.Name "isinstance" p1) [xa, .Name x p2] [] pos) := fun ρ => by
  simp only [evE]
  have mk : ∀ (r : V → Hp → VK → Prop) (ta : TE), (∀ x H Q, r x H Q → rIsi X.K [x, .ty (tyS t)] H Q) → PE X xa ta → PE X (.Call (.Name "isinstance" p1) [xa, .Name x p2] [] pos) (tUn r ta) := fun r ta g h => by
    have c : CallR X (.builtin "isinstance") (fun xs H Q => ∃ x, xs = [x, .ty (tyS t)] ∧ r x H Q) := fun pins s σ H xs us Q I rv q => by
      obtain ⟨x, rfl, q⟩ := q
      exact call_isi pins s σ H _ us Q I rv (g _ _ _ q)
    refine pe_imp (pe_callB c bn.hg bn.hm bn.hv (pa_cons h (pa_cons (pe_bltn bt.hg bt.hm bt.hv (v := .ty (tyS t)) rfl bt.hn bt.hdb) pa_nil h2) h1) bn.hn bn.hdb h1 hpl) fun σ H Q q => ?_
    show ta σ H fun x H1 => ∃ y, [x, V.ty (tyS t)] = [y, .ty (tyS t)] ∧ r y H1 Q
    have e : (fun x H1 => ∃ y, [x, V.ty (tyS t)] = [y, .ty (tyS t)] ∧ r y H1 Q) = fun x H1 => r x H1 Q := by
      funext x H1
      simp
    rw [e]
    exact q
  refine one (good := fun r => ∀ x H Q, r x H Q → rIsi X.K [x, .ty (tyS t)] H Q) mk (fun _ _ _ z => z.elim) (fun d => (isiD d t).map .bl) (fun d c h => ?_) ha rfl ρ
  have h : (isiD d t).map D.bl = some c := h
  cases e : isiD d t with
  | none => rw [e] at h; cases h
  | some b =>
    rw [e] at h; cases h
    obtain ⟨g, e1, e2⟩ := kitB_all d t b e
    refine ⟨fun x H Q => TyX X.K H x (.type g) ∧ Q (.bl b) H, fun x H Q q => ⟨x, _, _, _, b, rfl, .ty _, q.1, kit_ty e2, q.2⟩, fun x H Q O hO rx q => ⟨hK ▸ tyX_of e1 rx, q _ _ (Same.refl H) (.bl _)⟩⟩

/-! ### a op b op c -/
theorem cmpD_bl {o : Cop} {d e c : D} (h : cmpD o d e = some c) : ∃ b, c = .bl b := by
  cases o <;> simp only [cmpD] at h
  case eq => cases z : eqD d e <;> rw [z] at h <;> cases h; exact ⟨_, rfl⟩
  case ne => cases z : eqD d e <;> rw [z] at h <;> cases h; exact ⟨_, rfl⟩
  case isin => cases z : inD d e <;> rw [z] at h <;> cases h; exact ⟨_, rfl⟩
  case nin => cases z : inD d e <;> rw [z] at h <;> cases h; exact ⟨_, rfl⟩
  all_goals
    split at h
    · first
      | (cases h; exact ⟨_, rfl⟩)
      | (rename_i i j; cases z : ltI _ i j <;> rw [z] at h <;> cases h; exact ⟨_, rfl⟩)
    · cases h
theorem s_chn (hK : X.K = p.K) (hu : X.A.units + 70 < cLine) {o o' : Cop} {a b c : Ex} {xa xb xc : Expr} {pos : Pos} (ha : SE p W X G cf a xa) (hb : SE p W X G cf b xb) (hc : SE p W X G cf c xc) (hm : lastMarks [copOf o, copOf o'] [xb, xc] = false) :
    SE p W X G cf (.chn o o' a b c) (.Compare xa [copOf o, copOf o'] [xb, xc] pos) := fun ρ => by
  have pa := ha ρ
  simp only [evE]
  have vd : ∀ {x : Expr}, PE X x (fun _ _ _ => False) := pe_void fun _ _ _ z => z
  cases ea : evE G cf a ρ with
  | no => exact pe_no
  | ex k fs ρ1 =>
    rw [ea] at pa
    exact pe_imp (pe_chain (op_false (X := X)) (op_false (X := X)) pa vd vd hm) fun σ H Q h => h
  | ok d ρ1 =>
    rw [ea] at pa
    have pb := hb ρ1
    simp only [R.bind]
    cases eb : evE G cf b ρ1 with
    | no => exact pe_no
    | ex k fs ρ2 =>
      rw [eb] at pb
      refine pe_imp (pe_chain (op_false (X := X)) (op_false (X := X)) pa pb vd hm) fun σ H Q h => ?_
      obtain ⟨Wr, r, k⟩ := h
      exact ⟨Wr, r, fun v H1 r1 f1 _ => ⟨Wr, r1, k.step f1⟩⟩
    | ok e ρ2 =>
      rw [eb] at pb
      simp only
      cases e1 : fx a d ρ2 with
      | none => exact pe_no
      | some d' =>
        cases e2 : fx b e ρ2 with
        | none => exact pe_no
        | some e' =>
          simp only
          cases e3 : cmpD o d' e' with
          | none => exact pe_no
          | some z =>
            obtain ⟨r, g, k⟩ := ok_cmp (X := X) (cl := p.cl) hu o d' e' z e3
            rw [hK] at k
            obtain ⟨bb, rfl⟩ := cmpD_bl e3
            cases bb with
            | false =>
              refine pe_imp (pe_chain g (op_false (X := X)) pa pb vd hm) fun σ H Q h => ?_
              obtain ⟨Wr, rl, q⟩ := h
              refine ⟨Wr, rl, fun v H1 r1 f1 w1 => ⟨Wr, r1, fun u H2 r2 f2 w2 => ?_⟩⟩
              refine k v u H2 _ (p.O Wr) r2.dom (w1.at r2 f2 e1) (w2.at r2 Fr.refl e2) fun w H3 s rw => ?_
              cases rw
              exact ⟨false, rfl, by rw [if_neg Bool.false_ne_true]; exact q _ H3 (r2.same s) ((f1.trans f2).trans (Fr.same s)) (Val.of (p := p) (.bl _) rfl)⟩
            | true =>
              have pc := hc ρ2
              cases ec : evE G cf c ρ2 with
              | no => exact pe_no
              | ex k2 fs ρ3 =>
                rw [ec] at pc
                refine pe_imp (pe_chain g (op_false (X := X)) pa pb pc hm) fun σ H Q h => ?_
                obtain ⟨Wr, rl, q⟩ := h
                refine ⟨Wr, rl, fun v H1 r1 f1 w1 => ⟨Wr, r1, fun u H2 r2 f2 w2 => ?_⟩⟩
                refine k v u H2 _ (p.O Wr) r2.dom (w1.at r2 f2 e1) (w2.at r2 Fr.refl e2) fun w H3 s rw => ?_
                cases rw
                exact ⟨true, rfl, by rw [if_pos rfl]; exact ⟨Wr, r2.same s, (((tK.step q f1).step f2).step (Fr.same s))⟩⟩
              | ok f ρ3 =>
                rw [ec] at pc
                simp only
                cases e4 : fx b e ρ3 with
                | none => exact pe_no
                | some e5 =>
                  cases e6 : fx c f ρ3 with
                  | none => exact pe_no
                  | some f5 =>
                    simp only
                    cases e7 : cmpD o' e5 f5 with
                    | none => exact pe_no
                    | some z2 =>
                      obtain ⟨r', g', k'⟩ := ok_cmp (X := X) (cl := p.cl) hu o' e5 f5 z2 e7
                      rw [hK] at k'
                      refine pe_imp (pe_chain g g' pa pb pc hm) fun σ H Q h => ?_
                      obtain ⟨Wr, rl, q⟩ := h
                      refine ⟨Wr, rl, fun v H1 r1 f1 w1 => ⟨Wr, r1, fun u H2 r2 f2 w2 => ?_⟩⟩
                      refine k v u H2 _ (p.O Wr) r2.dom (w1.at r2 f2 e1) (w2.at r2 Fr.refl e2) fun w H3 s rw => ?_
                      cases rw
                      refine ⟨true, rfl, ?_⟩
                      rw [if_pos rfl]
                      refine ⟨Wr, r2.same s, fun u2 H4 r4 f4 w4 => ?_⟩
                      exact k' u u2 H4 Q (p.O Wr) r4.dom (w2.at r4 ((Fr.same s).trans f4) e4) (w4.at r4 Fr.refl e6) (fin_ok (o := some z2) r4 ((((q.step f1).step f2).step (Fr.same s)).step f4) rfl rfl)
end
end PD
end

section
set_option Elab.async false
set_option linter.all false
set_option maxRecDepth 100000
set_option maxHeartbeats 1000000
/-! PD7: changes of own cells; dicts of the module; written dicts -/
namespace PD
open PySem PySem.Spec PyProof.Rows L2

theorem lk_set_ne {ρ : Env} {i j : Nat} {o : Option D} (h : i ≠ j) : lk (ρ.set i o) j = lk ρ j := by
  unfold lk
  rw [List.getElem?_set_ne h]
theorem lk_set_eq {ρ : Env} {i : Nat} {o : Option D} (h : i < ρ.length) : lk (ρ.set i o) i = o := by
  unfold lk
  rw [List.getElem?_set_self h]; rfl
theorem lk_lt {ρ : Env} {i : Nat} {d : D} (h : lk ρ i = some d) : i < ρ.length := by
  unfold lk at h
  cases q : ρ[i]? with
  | none => rw [q] at h; cases h
  | some x => exact (List.getElem?_eq_some_iff.mp q).1
section
variable {p : Pr} {W : WX} {X : Cx} {G : List D} {cf : Nat → List D → C} {ρ : Env} {σ : L2.St} {H : Hp} {Wr : Addr → Prop}
theorem upd_fr {a : Addr} {o : HO} (h : Wr a) : Fr Wr H (upd H a o) := ⟨fun b u n e => by
    rw [upd_ne (fun z => n (by rw [z]; exact h))]
    exact e, fun b e => by
    by_cases z : b = a
    · subst z; rw [upd_same]; rfl
    · rw [upd_ne z]; exact e⟩
theorem Rel.put {i : Nat} {d d' : D} {a : Addr} {o : HO} (r : Rel p ρ σ H Wr) (m : p.M i = true) (e : lk ρ i = some d) (hs : σ[i]? = some (some (.ref a))) (ow : p.Own (upd H a o) Wr a d') : Rel p (ρ.set i (some d')) σ (upd H a o) Wr := by
  obtain ⟨a', e1, wa, _, _⟩ := r.own i d m e
  rw [hs] at e1; cases e1
  have f : Fr Wr H (upd H a o) := upd_fr wa
  have li := lk_lt e
  have kept : ∀ j, (lk (ρ.set i (some d')) j).isSome = true → (lk ρ j).isSome = true := fun j h => by
    by_cases z : i = j
    · subst z; rw [e]; rfl
    · rwa [lk_set_ne z] at h
  refine ⟨by rw [List.length_set]; exact r.len, fun b hb => f.dom b (r.dom b hb), fun j dj mj ej => ?_, fun j dj mj ej => ?_, fun j k b mj mk hj hk => r.inj j k b mj mk (kept j hj) (kept k hk), fun q hq => ?_⟩
  · have z : i ≠ j := fun z => by subst z; rw [m] at mj; cases mj
    rw [lk_set_ne z] at ej
    obtain ⟨v, h1, h2⟩ := r.cl j dj mj ej
    exact ⟨v, h1, Rep.fr h2 f⟩
  · by_cases z : i = j
    · subst z
      rw [lk_set_eq li] at ej
      cases ej
      obtain ⟨a2, h1, h2, _, h4⟩ := r.own i d m e
      rw [hs] at h1; cases h1
      exact ⟨a, hs, h2, ow, h4⟩
    · rw [lk_set_ne z] at ej
      obtain ⟨b, h1, h2, h3, h4⟩ := r.own j dj mj ej
      have ne : b ≠ a := fun q => z (by
        subst q
        exact r.inj i j b m mj (by rw [e]; rfl) (by rw [ej]; rfl) hs h1)
      exact ⟨b, h1, h2, h3.frame (upd_ne ne) (fun c u n e => f.keep c u (fun w => n (.inr w)) e) fun _ _ w => w, h4⟩
  · obtain ⟨h1, h2, h3, h4⟩ := r.ioz q hq
    refine ⟨h1, ?_, h3, h4⟩
    by_cases z : i = q.1
    · rw [← z, lk_set_eq li]; rfl
    · rw [lk_set_ne z]; exact h2
theorem own_lst {a : Addr} {d : D} {vs : List V} {ds es : List D} {ws : List V} (wa : Wr a) (q : RepA p.K p.cl H (p.O Wr) ws es) : p.Own (upd H a (.lst ws)) Wr a (.lst es) :=
  .lst upd_same (q.frame (fun b u n e => (upd_fr wa).keep b u (fun w => n (.inr w)) e) fun _ _ z => z)

/-! ### methods that change a list of one's own -/
def mmN : Mm → Str
  | .append => "append" | .extend => "extend" | .pop => "pop"
def mmI : Mm → String
  | .append => "list.append" | .extend => "list.extend" | .pop => "list.pop"
theorem mmsl (m : Mm) : MSl "list" (mmN m) (mmI m) := by
  cases m
  · exact ⟨F.plainAttrs_list, F.slot_list_append, F.type_list_append⟩
  · exact ⟨F.plainAttrs_list, F.slot_list_extend, F.type_list_extend⟩
  · exact ⟨F.plainAttrs_list, F.slot_list_pop, F.type_list_pop⟩
/-- the rule of such a method with one argument -/
theorem ok_mm1 {X : Cx} (m : Mm) {d e v d' : D} (h : mm1D m d e = some (v, d')) : ∃ r, GM1 X (mmI m) r ∧ ∀ (y : V) (a : Addr) (H : Hp) (Q : VK) (p : Pr) (Wr : Addr → Prop), Wr a → p.Own H Wr a d → RepB p.K p.cl H (p.O Wr) y e →
    (m = .append → p.Rep H Wr y e) →
    (∀ w o, p.Own (upd H a o) Wr a d' → p.Rep (upd H a o) Wr w v → Q w (upd H a o)) → r (.ref a) y H Q := by
  unfold mm1D at h
  split at h
  · rename_i xs
    split at h
    · rename_i hf
      cases h
      have hf := of_decide_eq_true hf
      refine ⟨fun x y H Q => rAppend x [y] H Q, GM1.of mt_append fun x y H Q q => q, fun y a H Q p Wr wa ow ry rc q => ?_⟩
      cases ow with
      | lst e r =>
        refine ⟨a, _, y, rfl, rfl, e, by rw [r.length]; exact hf, ?_⟩
        exact q _ _ (own_lst (p := p) (d := .non) (vs := []) (ds := []) wa (r.snoc (rc rfl))) .non
    · cases h
  · rename_i xs ys
    split at h
    · rename_i hf
      cases h
      have hf := of_decide_eq_true hf
      refine ⟨fun x y H Q => rExtend x [y] H Q, GM1.of mt_extend fun x y H Q q => q, fun y a H Q p Wr wa ow ry rc q => ?_⟩
      cases ow with
      | lst e r =>
        obtain ⟨b, ws, rfl, hb, qb⟩ := ry.lst
        refine ⟨a, b, _, _, rfl, rfl, e, hb, by rw [r.length, qb.length]; exact hf, ?_⟩
        exact q _ _ (own_lst (p := p) (d := .non) (vs := []) (ds := []) wa (r.append qb)) .non
    · cases h
  · rename_i xs i
    cases ek : ixN xs.length i with
    | none => rw [ek] at h; cases h
    | some k =>
      rw [ek] at h
      by_cases hz : fitn xs.length = true
      · have h : (if fitn xs.length = true then (xs[k]?).map (fun y => (y, D.lst (xs.eraseIdx k))) else none) = some (v, d') := h
        rw [if_pos hz] at h
        have hz : xs.length ≤ sizeLine := of_decide_eq_true hz
        cases ez : xs[k]? with
        | none => rw [ez] at h; cases h
        | some z =>
          rw [ez] at h; cases h
          obtain ⟨h1, h2, h3, h4⟩ := ixN_seq ek
          refine ⟨fun x y H Q => rPopAt x [y] H Q, GM1.of mt_popAt fun x y H Q q => q, fun y a H Q p Wr wa ow ry rc q => ?_⟩
          cases ow with
          | lst e r =>
            obtain ⟨w, e1, r1⟩ := r.getD ez
            have hz2 := sizeLine_eq
            cases ry.int
            refine ⟨a, _, i, k, w, rfl, rfl, e, by omega, by omega, by rw [r.length]; exact h1, e1, ?_⟩
            exact q _ _ (own_lst (p := p) (d := .non) (vs := []) (ds := []) wa (r.erase k)) (Rep.fr r1 (upd_fr wa))
      · have h : (if fitn xs.length = true then (xs[k]?).map (fun y => (y, D.lst (xs.eraseIdx k))) else none) = some (v, d') := h
        rw [if_neg hz] at h
        cases h
  · cases h
theorem mm_step {i : Nat} {a : Ex} {x : Expr} {xa : Expr} {m : Mm} {nm : Str} {p1 apos cpos : Pos} (hN : X.N[i]? = some nm) (hv : Vis X.env.scope nm) (hM : p.M i = true) (hd : (nm == ("__debug__" : Str)) = false) (hcd : (nm == ("__classdict__" : Str)) = false)
    (hK : X.K = p.K) (ha : SE p W X G cf a xa) (hap : m = .append → isBor a = none) (m1 : M1 X (.Name nm p1) (mmN m) apos xa cpos)
    (hs : starEach [xa] X.env = (false, eval xa X.env) :: starEach [] X.env) (hpl : (backTo cpos (starEach [] X.env)).any (·.1) = false) : SE p W X G cf (.mm1 m i a) (.Call (.Attribute (.Name nm p1) (mmN m) apos) [xa] [] cpos) := fun ρ => by
  have pa := ha ρ
  simp only [evE]
  cases el : lk ρ i with
  | none => exact pe_no
  | some d0 =>
    simp only
    cases ht : tyD "list" d0 with
    | false => rw [if_pos rfl]; exact pe_no
    | true =>
      rw [if_neg (by decide)]
      have tv : ∀ {Wr σ H}, Rel p ρ σ H Wr → ∃ b, σ[i]? = some (some (.ref b)) ∧ Wr b ∧ tyV X.K "list" (.ref b) H := fun r => by
        obtain ⟨b, h1, h2, h3, _⟩ := r.own i d0 hM el
        refine ⟨b, h1, h2, ?_⟩
        cases h3 with
        | lst e _ => exact .inl ⟨rfl, _, SqL.of e⟩
        | _ => simp [tyD] at ht
      cases ea : evE G cf a ρ with
      | no => exact pe_no
      | ex c fs ρ1 =>
        rw [ea] at pa
        refine pe_imp (meth1 (mmsl m) m1 hs hpl _ _ _ gm1_false (pe_var hN hv hd hcd) pa) fun σ H Q h => ?_
        obtain ⟨Wr, r, k⟩ := h
        obtain ⟨b, h1, h2, h3⟩ := tv r
        exact ⟨_, h1, h3, Wr, r, k⟩
      | ok e ρ1 =>
        rw [ea] at pa
        simp only [R.bind]
        cases e1 : lk ρ1 i with
        | none => exact pe_no
        | some d =>
          cases e2 : fx a e ρ1 with
          | none => exact pe_no
          | some e' =>
            simp only
            cases e3 : mm1D m d e' with
            | none => exact pe_no
            | some vd =>
              obtain ⟨v, d'⟩ := vd
              obtain ⟨r, g, k⟩ := ok_mm1 (X := X) m e3
              refine pe_imp (meth1 (mmsl m) m1 hs hpl r _ _ g (pe_var hN hv hd hcd) pa) fun σ H Q h => ?_
              obtain ⟨Wr, rl, q⟩ := h
              obtain ⟨b, h1, h2, h3⟩ := tv rl
              refine ⟨_, h1, h3, Wr, rl, fun u H1 r1 f1 w1 => ?_⟩
              obtain ⟨b2, h4, h5, h6, _⟩ := r1.own i d hM e1
              rw [h1] at h4; cases h4
              refine k u b H1 Q p Wr h2 h6 (w1.at r1 Fr.refl e2) (fun z => ?_) fun w o ow rw => ?_
              · have n := hap z
                have e2' : some e = some e' := (fx_clean n e ρ1).symm.trans e2
                cases e2'
                exact w1.rep n
              · exact q w _ (r1.put hM e1 h1 ow) (f1.trans (upd_fr h2)) (Val.of (p := p) rw rfl)
theorem RepA.dropLast {K : PySem.W.Frag} {cl : Nat → Addr} {O : Addr → Prop} {vs : List V} {ds : List D} (r : RepA K cl H O vs ds) : RepA K cl H O vs.dropLast ds.dropLast := by
  rw [List.dropLast_eq_take, List.dropLast_eq_take, r.length]
  exact r.take _
theorem s_pop {i : Nat} {nm : Str} {p1 apos cpos : Pos} (hN : X.N[i]? = some nm) (hv : Vis X.env.scope nm) (hM : p.M i = true) (hd : (nm == ("__debug__" : Str)) = false) (hcd : (nm == ("__classdict__" : Str)) = false)
    (hb : attributeBase (.Name nm p1) "pop" X.env (eval (.Name nm p1) X.env) = eval (.Name nm p1) X.env) (hl : (apos.endLine == cpos.line) = true) : SE p W X G cf (.mm0 .pop i) (.Call (.Attribute (.Name nm p1) "pop" apos) [] [] cpos) := fun ρ => by
  simp only [evE]
  cases el : lk ρ i with
  | none => exact pe_no
  | some d =>
    simp only
    cases e3 : mm0D .pop d with
    | none => exact pe_no
    | some vd =>
      obtain ⟨v, d'⟩ := vd
      unfold mm0D at e3
      split at e3
      · rename_i xs _
        cases ez : xs[xs.length - 1]? with
        | none => rw [ez] at e3; cases e3
        | some z =>
          rw [ez] at e3; cases e3
          refine pe_imp (meth0 (mmsl .pop) hb hl (fun x H Q => rPop x [] H Q) _ (GM0.of mt_pop fun x H Q q => q) (pe_var hN hv hd hcd)) fun σ H Q h => ?_
          obtain ⟨Wr, rl, q⟩ := h
          obtain ⟨b, h1, h2, h3, _⟩ := rl.own i _ hM el
          cases h3 with
          | lst e r =>
            obtain ⟨w, e1, r1⟩ := r.getD ez
            refine ⟨_, h1, .inl ⟨rfl, _, SqL.of e⟩, b, _, w, rfl, rfl, e, by rw [r.length]; exact e1, ?_⟩
            exact q w _ (rl.put hM el h1 (own_lst (p := p) (d := .non) (vs := []) (ds := []) h2 (RepA.dropLast r))) (upd_fr h2) (Val.of (p := p) (Rep.fr r1 (upd_fr h2)) rfl)
      · cases e3

/-! ### a written dict of the module with text keys -/
structure GDict (X : Cx) (cl : Nat → Addr) (x : Str) (kvs : List (D × D)) (d : Addr) (es : Array DictEntry) (n : Nat) : Prop where
  hg : Gl X x
  hm : X.mg x = some (.ref d)
  hd : (x == ("__debug__" : Str)) = false
  kd : KDict X.K X.w d es n
  get : ∀ z : Str, ∃ r, PySem.W.nsIn X.K d z = some r ∧ match dget kvs (.str z) with
    | some c => ∃ u v, r = some u ∧ RelV v u ∧ ∀ H O, PD.Rep X.K cl H O v c
    | none => r = none
theorem s_gin {g : Nat} {neg : Bool} {a : Ex} {xa : Expr} {x : Str} {kvs : List (D × D)} {d : Addr} {es : Array DictEntry} {n : Nat} {p1 pos : Pos} (gd : GDict X p.cl x kvs d es n) (hG : G[g]? = some (.dct false kvs)) (ha : SE p W X G cf a xa) (na : isBor a = none)
    (hm : behindInMarks (if neg then .NotIn else .In) (.Name x p1) = false) : SE p W X G cf (.gin g neg a) (.Compare xa [if neg then .NotIn else .In] [.Name x p1] pos) := fun ρ => by
  have pa := ha ρ
  have pg : PE X (.Name x p1) (tC (.ref d)) := pe_glob gd.hg gd.hm rfl gd.hd
  simp only [evE, hG]
  cases ea : evE G cf a ρ with
  | no => exact pe_no
  | ex c fs ρ1 =>
    rw [ea] at pa
    exact pe_imp (pe_cmpR (op_false (X := X)) pa pg hm) fun σ H Q h => h
  | ok e ρ1 =>
    rw [ea] at pa
    simp only [R.bind]
    cases e with
    | str z =>
      simp only
      obtain ⟨r, h1, h2⟩ := gd.get z
      have h3 : (dget kvs (.str z)).isSome = r.isSome := by
        cases q : dget kvs (.str z) with
        | none => rw [q] at h2; simp only at h2; rw [h2]; rfl
        | some c => rw [q] at h2; simp only at h2; obtain ⟨u, v, h2, _⟩ := h2; rw [h2]; rfl
      rw [h3]
      cases neg with
      | false =>
        refine pe_imp (pe_cmpR (op_in_kd gd.kd) pa pg hm) fun σ H Q h => ?_
        obtain ⟨Wr, rl, k⟩ := h
        refine ⟨Wr, rl, fun v H1 r1 f1 w1 => ?_⟩
        have w := w1.rep na
        cases w
        exact ⟨z, r, rfl, rfl, h1, k _ H1 r1 f1 (Val.of (p := p) (.bl _) rfl)⟩
      | true =>
        refine pe_imp (pe_cmpR (op_notIn_kd gd.kd) pa pg hm) fun σ H Q h => ?_
        obtain ⟨Wr, rl, k⟩ := h
        refine ⟨Wr, rl, fun v H1 r1 f1 w1 => ?_⟩
        have w := w1.rep na
        cases w
        exact ⟨z, r, rfl, rfl, h1, k _ H1 r1 f1 (Val.of (p := p) (.bl _) rfl)⟩
    | _ => exact pe_no
theorem s_gget (hK : X.K = p.K) {g : Nat} {a : Ex} {xa : Expr} {x : Str} {kvs : List (D × D)} {d : Addr} {es : Array DictEntry} {n : Nat} {p1 pos : Pos} (gd : GDict X p.cl x kvs d es n) (hG : G[g]? = some (.dct false kvs)) (ha : SE p W X G cf a xa) (na : isBor a = none)
    (hs : PlainIx xa) : SE p W X G cf (.gget g a) (.Subscript (.Name x p1) xa pos) := fun ρ => by
  have pa := ha ρ
  have pg : PE X (.Name x p1) (tC (.ref d)) := pe_glob gd.hg gd.hm rfl gd.hd
  simp only [evE, hG]
  cases ea : evE G cf a ρ with
  | no => exact pe_no
  | ex c fs ρ1 =>
    rw [ea] at pa
    exact pe_imp (pe_ix ix_false pg pa hs) fun σ H Q h => h
  | ok e ρ1 =>
    rw [ea] at pa
    simp only [R.bind]
    cases e with
    | str z =>
      simp only
      obtain ⟨r, h1, h2⟩ := gd.get z
      cases q : dget kvs (.str z) with
      | none => exact pe_no
      | some c =>
        rw [q] at h2
        obtain ⟨u, v, h2, h3, h4⟩ := h2
        refine pe_imp (pe_ix ix_kdict pg pa hs) fun σ H Q h => ?_
        obtain ⟨Wr, rl, k⟩ := h
        refine ⟨Wr, rl, fun w H1 r1 f1 w1 => ?_⟩
        have w := w1.rep na
        cases w
        exact ⟨d, z, v, rfl, rfl, ⟨es, n, u, gd.kd.at_, gd.kd.lit, h1.trans (congrArg some h2), h3⟩, k _ H1 r1 f1 (Val.of (p := p) (show PD.Rep p.K p.cl H1 (p.O Wr) v c from by have h5 := h4 H1 (p.O Wr); rw [hK] at h5; exact h5) rfl)⟩
    | _ => exact pe_no

/-! ### a dict that is written here -/
theorem s_dct0 {pos : Pos} : SE p W X G cf (.dct false .nil .nil) (.Dict [] [] pos) := fun ρ => by
  simp only [evE, evs, R.bind]
  refine pe_imp pe_dnewK fun σ H Q h => ?_
  obtain ⟨Wr, r, k⟩ := h
  intro t ht
  have s := same_upd (o := .dK []) ht
  exact k _ _ (r.same s) (Fr.same s) (Val.of (p := p) (.dK upd_same (nodom r.dom ht) rfl .nil) rfl)
theorem s_dct1 {pos p1 p2 : Pos} {z : Str} {i : Int} {j1 j2 : Nat} : SE p W X G cf (.dct false (.cons (.str z) .nil) (.cons (.int i) .nil)) (.Dict [some (.Constant (.str z) j1 p1)] [.Constant (.int i) j2 p2] pos) := fun ρ => by
  simp only [evE, evs, R.bind]
  refine pe_imp (pe_disp (pps_cons pe_str pe_int pps_nil) rfl rfl (by simp) (by simp)) fun σ H Q h => ?_
  obtain ⟨Wr, r, k⟩ := h
  intro t ht
  refine ⟨upd_same, [(.inr z, .int i)], rfl, by simp, ?_⟩
  have e : upd (upd H t (.dK [])) t (.dK (mergeK [] [(.inr z, .int i)])) = upd H t (.dK [(.inr z, .int i)]) := by
    funext b
    by_cases q : b = t
    · subst q; rw [upd_same, upd_same]; rfl
    · rw [upd_ne q, upd_ne q, upd_ne q]
  show Q (.ref t) (upd (upd H t (.dK [])) t (.dK (mergeK [] [(.inr z, .int i)])))
  rw [e]
  have s := same_upd (o := .dK [(.inr z, .int i)]) ht
  exact k _ _ (r.same s) (Fr.same s) (Val.of (p := p) (.dK upd_same (nodom r.dom ht) rfl (.cons (.int i) .nil)) rfl)
/-! ### a dict of one's own -/
theorem sf_dct0 {pos : Pos} : SF p W X G cf (.dct false .nil .nil) (.Dict [] [] pos) := fun ρ => by
  simp only [evE, evs, R.bind]
  refine pe_imp pe_dnewK fun σ H Q h => ?_
  obtain ⟨Wr, r, k⟩ := h
  intro t ht
  exact fin_new k r Fr.refl ht (.dK upd_same rfl .nil)
theorem set_lk {ρ : Env} {i : Nat} {d : D} (h : lk ρ i = some d) : ρ.set i (some d) = ρ := by
  have hl := lk_lt h
  apply List.ext_getElem?
  intro j
  by_cases e : i = j
  · subst e
    rw [List.getElem?_set_self hl]
    unfold lk at h
    cases q : ρ[i]? with
    | none => rw [q] at h; cases h
    | some o =>
      rw [q] at h
      have : o = some d := h
      rw [this]
  · rw [List.getElem?_set_ne e]
theorem putK_new {kvs : List (Key × V)} {k : Key} {v : V} (h : valV kvs k = none) : putK kvs k v = kvs ++ [(k, v)] := by
  unfold putK
  have : (kvs.any fun kv => decide (kv.1 = k)) = false := by
    unfold valV at h
    rw [Option.map_eq_none_iff, List.find?_eq_none] at h
    rw [List.any_eq_false]
    exact h
  rw [this]
  rfl
theorem s_sdf {i : Nat} {a b : Ex} {xa xb : Expr} {nm : Str} {p1 apos cpos : Pos} (hN : X.N[i]? = some nm) (hv : Vis X.env.scope nm) (hM : p.M i = true) (hd : (nm == ("__debug__" : Str)) = false) (hcd : (nm == ("__classdict__" : Str)) = false)
    (ha : SE p W X G cf a xa) (na : isBor a = none) (hb : SE p W X G cf b xb) (nb : isBor b = none) (m : M2 X (.Name nm p1) "setdefault" apos xa xb cpos) : SE p W X G cf (.sdf i a b) (.Call (.Attribute (.Name nm p1) "setdefault" apos) [xa, xb] [] cpos) := fun ρ => by
  have pa := ha ρ
  simp only [evE]
  cases el : lk ρ i with
  | none => exact pe_no
  | some d0 =>
    cases d0 with
    | dct t kv0 =>
      simp only
      have tv : ∀ {Wr σ H}, Rel p ρ σ H Wr → ∃ c, σ[i]? = some (some (.ref c)) ∧ Wr c ∧ IsD H c := fun r => by
        obtain ⟨c, h1, h2, h3, _⟩ := r.own i _ hM el
        refine ⟨c, h1, h2, ?_⟩
        cases h3 with
        | dK e _ _ => exact .inl ⟨_, .inl e⟩
        | dT e _ _ => exact .inr ⟨_, .inl e⟩
      have no : ∀ σ H Q, ¬ (fun _ _ _ => False : TE) σ H Q := fun _ _ _ h => h
      cases ea : evE G cf a ρ with
      | no => exact pe_no
      | ex c fs ρ1 =>
        rw [ea] at pa
        refine pe_imp (pe_dsetd (pe_var hN hv hd hcd) pa (pe_void no) m) fun σ H Q h => ?_
        obtain ⟨Wr, r, k⟩ := h
        obtain ⟨c, h1, h2, h3⟩ := tv r
        exact ⟨_, h1, c, rfl, h3, Wr, r, k⟩
      | ok kd ρ1 =>
        rw [ea] at pa
        have pb := hb ρ1
        simp only [R.bind]
        cases eb : evE G cf b ρ1 with
        | no => exact pe_no
        | ex c fs ρ2 =>
          rw [eb] at pb
          refine pe_imp (pe_dsetd (pe_var hN hv hd hcd) pa pb m) fun σ H Q h => ?_
          obtain ⟨Wr, r, k⟩ := h
          obtain ⟨c, h1, h2, h3⟩ := tv r
          exact ⟨_, h1, c, rfl, h3, Wr, r, fun v H1 r1 f1 w1 => ⟨Wr, r1, fun dx H2 r2 f2 x2 => k dx H2 r2 (f1.trans f2) x2⟩⟩
        | ok e ρ2 =>
          rw [eb] at pb
          simp only
          cases e1 : lk ρ2 i with
          | none => exact pe_no
          | some d =>
            simp only
            cases e3 : sdfD d kd e with
            | none => exact pe_no
            | some vd =>
              obtain ⟨v, d'⟩ := vd
              refine pe_imp (pe_dsetd (pe_var hN hv hd hcd) pa pb m) fun σ H Q h => ?_
              obtain ⟨Wr, rl, q⟩ := h
              obtain ⟨c, h1, h2, h3⟩ := tv rl
              refine ⟨_, h1, c, rfl, h3, Wr, rl, fun u H1 r1 f1 w1 => ⟨Wr, r1, fun w H2 r2 f2 w2 => ?_⟩⟩
              unfold sdfD at e3
              split at e3
              · rename_i kvs z
                split at e3
                · rename_i hz
                  have hz := of_decide_eq_true hz
                  have ru := w1.rep na
                  cases ru
                  obtain ⟨c2, h4, h5, h6, _⟩ := r2.own i _ hM e1
                  rw [h1] at h4
                  cases h4
                  cases h6 with
                  | @dK kv2 _ eh hk qa =>
                    have dv := dget_val (z := z) hk qa
                    have hl : kv2.length = kvs.length := by
                      have := congrArg List.length hk
                      rw [List.length_map, List.length_map] at this
                      exact this.symm
                    refine ⟨kv2, .inr z, eh, rfl, by omega, fun x hx => ?_, fun hn => ?_⟩
                    · cases eg : dget kvs (.str z) with
                      | none => rw [dv.2 eg] at hx; cases hx
                      | some cc =>
                        rw [eg] at e3
                        cases e3
                        obtain ⟨x2, hx2, rx⟩ := dv.1 _ eg
                        rw [hx] at hx2
                        cases hx2
                        refine q x H2 ?_ (f1.trans f2) (Val.of (p := p) rx rfl)
                        rw [set_lk e1]
                        exact r2
                    · cases eg : dget kvs (.str z) with
                      | some cc =>
                        obtain ⟨x2, hx2, rx⟩ := dv.1 _ eg
                        rw [hn] at hx2
                        cases hx2
                      | none =>
                        rw [eg] at e3
                        cases e3
                        have rw2 := w2.rep nb
                        rw [putK_new hn]
                        have ow : p.Own (upd H2 c (.dK (kv2 ++ [(Sum.inr z, w)]))) Wr c (.dct false (kvs ++ [(.str z, e)])) := by
                          refine .dK upd_same (by rw [List.map_append, List.map_append, hk]; rfl) ?_
                          rw [List.map_append, List.map_append]
                          exact (qa.snoc rw2).frame (fun b u n e => (upd_fr h2).keep b u (fun w => n (.inr w)) e) fun _ _ z => z
                        exact q w _ (r2.put hM e1 h1 ow) (f1.trans (f2.trans (upd_fr h2))) (Val.of (p := p) (Rep.fr rw2 (upd_fr h2)) rfl)
                · cases e3
              · cases e3
    | _ => exact pe_no
end
end PD
end

section
set_option Elab.async false
set_option linter.all false
set_option maxRecDepth 100000
set_option maxHeartbeats 1000000
/-! PD8: repr -/
namespace PD
open PySem PySem.Spec PyProof.Rows L2

/-- a value that can be shown: read as data, its text made at any depth, and repr(..) of it -/
structure Shw (prog : Program) (w : World) (h : Heap) (v : Value) (d : PyData) : Prop where
  rd : ∃ as, Reads h v d as
  kk : ∃ bs, ReadAtMost h d.depth bs ∧ ReprK prog w bs h d.depth v d.shown
  go : ∀ (A : Around) (E : Value → Shared → Prop) (s : Shared) (Q : Value → Shared → Prop), A.guards = some [] → A.units + (d.depth + 1) < cLine → (∀ b o, h.get? b = some o → s.heap.get? b = some o) →
    (∀ h' u tk, (∀ b o, s.heap.get? b = some o → h'.get? b = some o) → Q (.str d.shown u) { s with heap := h', toks := tk }) → wpAny (model prog w) A (call (.builtin "repr") [v]) Q E s
structure ShwL (prog : Program) (w : World) (h : Heap) (vs : List Value) (ds : List PyData) : Prop where
  rd : ∃ as, ReadsAll h vs ds as
  kk : ∃ bs, ReadAtMost h (PyData.depthAll ds) bs ∧ ReprAllK prog w bs h (PyData.depthAll ds) vs (PyData.shownAll ds)
section
variable {prog : Program} {w : World} {h : Heap}
theorem shw_int (i : Int) (t : Tok) (hi : i.natAbs.log2 < 1920) : Shw prog w h (.int i t) (.int i) :=
  ⟨⟨_, .int i t⟩, ⟨[], (fun _ z => nomatch z), by simp only [PyData.shown]; exact .of_is (ReprIs.int t hi) _ _ _⟩, fun A E s Q _ _ _ q => PySem.P.repr_of_int hi (by
    have := q s.heap s.toks (s.toks + 1) fun _ _ e => e
    simpa only [PyData.shown] using this)⟩
theorem shw_str (x : Str) (t : Tok) (hz : (reprText x).length ≤ sizeLine) : Shw prog w h (.str x t) (.str x) :=
  ⟨⟨_, .str x t⟩, ⟨[], (fun _ z => nomatch z), by simp only [PyData.shown]; exact .of_is (ReprIs.str x t hz) _ _ _⟩, fun A E s Q _ _ _ q => PySem.P.repr_of_str (by
    have := q s.heap s.toks (s.toks + 1) fun _ _ e => e
    simpa only [PyData.shown] using this) hz⟩
theorem shw_bool (b : Bool) : Shw prog w h (.bool b) (.bool b) :=
  ⟨⟨_, .bool b⟩, ⟨[], (fun _ z => nomatch z), by simp only [PyData.shown]; exact .of_is (ReprIs.bool b) _ _ _⟩, fun A E s Q _ _ _ q => PySem.P.repr_of_bool (by
    have := q s.heap s.toks (s.toks + 1) fun _ _ e => e
    simpa only [PyData.shown] using this)⟩
theorem shw_none : Shw prog w h .none .none :=
  ⟨⟨_, .none⟩, ⟨[], (fun _ z => nomatch z), by simp only [PyData.shown]; exact .of_is ReprIs.none _ _ _⟩, fun A E s Q _ _ _ q => PySem.P.repr_of_none (by
    have := q s.heap s.toks (s.toks + 1) fun _ _ e => e
    simpa only [PyData.shown] using this)⟩
theorem shw_nil : ShwL prog w h [] [] := ⟨⟨_, .nil⟩, ⟨[], (fun _ z => nomatch z), by simp only [PyData.shownAll]; exact .nil⟩⟩
theorem shw_cons {v : Value} {vs : List Value} {d : PyData} {ds : List PyData} (a : Shw prog w h v d) (b : ShwL prog w h vs ds) : ShwL prog w h (v :: vs) (d :: ds) := by
  obtain ⟨as, ra⟩ := a.rd
  obtain ⟨bs, rb⟩ := b.rd
  obtain ⟨b1, h1, k1⟩ := a.kk
  obtain ⟨b2, h2, k2⟩ := b.kk
  have m1 : d.depth ≤ PyData.depthAll (d :: ds) := by simp only [PyData.depthAll]; omega
  have m2 : PyData.depthAll ds ≤ PyData.depthAll (d :: ds) := by simp only [PyData.depthAll]; omega
  refine ⟨⟨_, .cons ra rb⟩, b1 ++ b2, (h1.mono m1).append (h2.mono m2), ?_⟩
  simp only [PyData.shownAll]
  exact .cons ((k1.more fun b hb => List.mem_append_left _ hb).level_le m1) (k2.more_le (fun b hb => List.mem_append_right _ hb) m2)
theorem shw_list {a : Addr} {o : Obj} {l : List Value} {n : Nat} {xs : List PyData} (h1 : h.get? a = some o) (h2 : o.cls = .type "list") (h3 : o.data = .seq l.toArray n) (q : ShwL prog w h l xs) (hz : (listText (PyData.shownAll xs)).length ≤ sizeLine) : Shw prog w h (.ref a) (.list xs) := by
  obtain ⟨as, r4⟩ := q.rd
  obtain ⟨bs, hb, hk⟩ := q.kk
  have r : Reads h (.ref a) (.list xs) _ := .list h1 h2 h3 (by simpa using r4)
  have dd : PyData.depthAll xs < (PyData.list xs).depth := by simp only [PyData.depth]; omega
  have hna : a ∉ bs := not_mem_of_deeper r dd hb
  cases l with
  | nil =>
    cases r4
    refine ⟨⟨_, r⟩, ⟨a :: bs, hb.cons r (Nat.le_of_lt dd), ?_⟩, fun A E s Q hg hu hk0 hQ => ?_⟩
    · simp only [PyData.depth, PyData.shown, PyData.shownAll, listText_nil]
      exact ReprK.listEmpty h1 h2 h3
    · refine call_repr_slot (by omega) ⟨o, hk0 _ _ h1, h2⟩ F.slot_list_repr.toG (call_list_repr_empty ⟨o, hk0 _ _ h1, h2⟩ (hk0 _ _ h1) h3 ⟨_, _, rfl, ?_⟩)
      have := hQ s.heap s.toks (s.toks + 1) fun _ _ e => e
      simpa only [PyData.shown, PyData.shownAll, listText_nil] using this
  | cons x l =>
    refine ⟨⟨_, r⟩, ⟨a :: bs, hb.cons r (Nat.le_of_lt dd), ?_⟩, fun A E s Q hg hu hk0 hQ => ?_⟩
    · simp only [PyData.depth, PyData.shown]
      exact ReprK.list h1 h2 h3 hna (by simpa using hk.length_eq) fun i y e => hk.item i y (by simpa using e)
    · simp only [PyData.depth] at hu
      simp only [PyData.shown] at hQ
      exact call_repr_slot (by omega) ⟨o, hk0 _ _ h1, h2⟩ F.slot_list_repr.toG (call_list_reprK h1 h2 h3 hna (by simpa using hk.length_eq) (fun i y e => hk.item i y (by simpa using e)) hg (fun b _ => Clear.nil b) (by show A.units + 1 + _ < cLine; omega) hk0 (fun h' u tk hk' => ⟨_, _, rfl, hQ h' u tk hk'⟩) hz)
theorem shw_tup {a : Addr} {o : Obj} {l : List Value} {n : Nat} {xs : List PyData} (h1 : h.get? a = some o) (h2 : o.cls = .type "tuple") (h3 : o.data = .seq l.toArray n) (q : ShwL prog w h l xs) (hz : (tupleText (PyData.shownAll xs)).length ≤ sizeLine) : Shw prog w h (.ref a) (.tuple xs) := by
  obtain ⟨as, r4⟩ := q.rd
  obtain ⟨bs, hb, hk⟩ := q.kk
  have r : Reads h (.ref a) (.tuple xs) _ := .tuple h1 h2 h3 (by simpa using r4)
  have dd : PyData.depthAll xs < (PyData.tuple xs).depth := by simp only [PyData.depth]; omega
  have hna : a ∉ bs := not_mem_of_deeper r dd hb
  have hk' : ReprAllK prog w bs h (PyData.depthAll xs) l.toArray.toList (PyData.shownAll xs) := by simpa using hk
  refine ⟨⟨_, r⟩, ⟨a :: bs, hb.cons r (Nat.le_of_lt dd), ?_⟩, fun A E s Q hg hu hk0 hQ => ?_⟩
  · simp only [PyData.depth, PyData.shown]
    exact ReprK.tuple h1 h2 h3 hna hk'
  · simp only [PyData.depth] at hu
    simp only [PyData.shown] at hQ
    exact call_repr_slot (by omega) ⟨o, hk0 _ _ h1, h2⟩ F.slot_tuple_repr (call_tuple_reprK h1 h2 h3 hna hk' hg (fun b _ => Clear.nil b) (by show A.units + 1 + _ < cLine; omega) hk0 (fun h' u tk hk' => ⟨_, _, rfl, hQ h' u tk hk'⟩) hz)
theorem shw_dict {a : Addr} {o : Obj} {es : Array DictEntry} {n : Nat} {kvs : List (PyData × PyData)} (h1 : h.get? a = some o) (h2 : o.cls = .type "dict") (h3 : o.data = .dict es n) (hsys : (a == sysModules) = false)
    (qk : ShwL prog w h (es.toList.map (·.key)) (kvs.map (·.1))) (qv : ShwL prog w h (es.toList.map (·.val)) (kvs.map (·.2))) (hz : (dictText (PyData.shownKv kvs)).length ≤ sizeLine) : Shw prog w h (.ref a) (.dict kvs) := by
  obtain ⟨as, r4⟩ := qk.rd
  obtain ⟨bs, r5⟩ := qv.rd
  obtain ⟨b1, hb1, k1⟩ := qk.kk
  obtain ⟨b2, hb2, k2⟩ := qv.kk
  have r : Reads h (.ref a) (.dict kvs) _ := .dict h1 h2 h3 r4 r5
  have dd : PyData.depthKv kvs < (PyData.dict kvs).depth := by simp only [PyData.depth]; omega
  have hb : ReadAtMost h (PyData.depthKv kvs) (b1 ++ b2) := (hb1.mono (PyData.depthAll_keys_le kvs)).append (hb2.mono (PyData.depthAll_vals_le kvs))
  have hna : a ∉ b1 ++ b2 := not_mem_of_deeper r dd hb
  have hE := ReprEntriesK.of_two es.toList _ _ (k1.more_le (fun b hb => List.mem_append_left b2 hb) (PyData.depthAll_keys_le kvs)) (k2.more_le (fun b hb => List.mem_append_right b1 hb) (PyData.depthAll_vals_le kvs))
  rw [PyData.shownKv_eq] at hz
  refine ⟨⟨_, r⟩, ⟨a :: (b1 ++ b2), hb.cons r (Nat.le_of_lt dd), ?_⟩, fun A E s Q hg hu hk0 hQ => ?_⟩
  · simp only [PyData.depth, PyData.shown, PyData.shownKv_eq]
    exact ReprK.dict h1 h2 h3 hsys hna hE
  · simp only [PyData.depth] at hu
    simp only [PyData.shown, PyData.shownKv_eq] at hQ
    exact call_repr_slot (by omega) ⟨o, hk0 _ _ h1, h2⟩ F.slot_dict_repr (call_dict_reprK h1 h2 h3 hsys hna hE hg (fun b _ => Clear.nil b) (by show A.units + 1 + _ < cLine; omega) hk0 (fun h' u tk hk' => ⟨_, _, rfl, hQ h' u tk hk'⟩) hz)
end
theorem pyK_fst : ∀ ds : List (D × D), (pyK ds).map (·.1) = ds.map fun p => py p.1
  | [] => rfl
  | (k, v) :: r => by rw [pyK, List.map_cons, List.map_cons, pyK_fst r]
theorem pyK_snd : ∀ ds : List (D × D), (pyK ds).map (·.2) = pyL (ds.map (·.2))
  | [] => rfl
  | (k, v) :: r => by rw [pyK, List.map_cons, List.map_cons, pyL, pyK_snd r]
section
variable {prog : Program} {w : World} {h : Heap}
theorem vals_of_pairs {P : Program} {w0 : World} : ∀ {es : List DictEntry} {vs : List (Key × Value)} {kvs : List (Key × V)}, Pairs (mixKind P w0) es vs → KV kvs vs → Vals (kvs.map (·.2)) (es.map (·.val))
  | _, _, _, .nil, k => by cases k; exact .nil
  | _, _, _, .cons h1 h2 h3, k => by
    cases k with
    | cons r t => exact .cons (by have r2 := r.2; rw [← h2] at r2; exact r2) (vals_of_pairs h3 t)
theorem shw_keys {P : Program} {w0 : World} : ∀ {es : List DictEntry} {vs : List (Key × Value)} {kvs : List (Key × V)} {ks : List D}, Pairs (mixKind P w0) es vs → KV kvs vs → ks = kvs.map (fun p => kD p.1) → PyData.showableAll (pyL ks) = true → (∀ t ∈ PyData.shownAll (pyL ks), t.length ≤ sizeLine) →
    ShwL prog w h (es.map (·.key)) (pyL ks)
  | _, _, _, _, .nil, k, e, _, _ => by cases k; subst e; exact shw_nil
  | _, _, kv :: kvs, _, .cons (e := en) h1 h2 h3, .cons r t, e, hs, hz => by
    subst e
    have hs : (py (kD kv.1)).showable = true ∧ PyData.showableAll (pyL (kvs.map fun p => kD p.1)) = true := by simpa [pyL, PyData.showableAll] using hs
    have hz1 := hz (py (kD kv.1)).shown (by simp [pyL, PyData.shownAll])
    have hz2 : ∀ t ∈ PyData.shownAll (pyL (kvs.map fun p => kD p.1)), t.length ≤ sizeLine := fun t ht => hz t (by
      rw [List.map_cons, pyL, PyData.shownAll]
      exact List.mem_cons_of_mem _ ht)
    rw [List.map_cons, List.map_cons, pyL]
    refine shw_cons ?_ (shw_keys h3 t rfl hs.2 hz2)
    have h1 : keyIs kv.1 en.key = true := by
      have := r.1
      rw [this]
      exact h1
    rcases keyIs_shape h1 with ⟨i, t, e1, e2⟩ | ⟨x, t, e1, e2⟩
    · rw [e1] at hs hz1 ⊢
      rw [e2]
      exact shw_int i t (by simpa [kD, py, PyData.showable] using hs.1)
    · rw [e1] at hs hz1 ⊢
      rw [e2]
      exact shw_str x t (by simpa only [kD, py, PyData.shown] using hz1)
end
section
variable {X : Cx} {pins : List (Addr × Obj)} {σ : L2.St} {H : Hp} {s : Shared} {cl : Nat → Addr} {O : Addr → Prop}
mutual
theorem Rep.shw (I : Inv X pins σ H s) : ∀ (n : Nat) (d : D) {v : V} {u : Value}, pln n d = true → PD.Rep X.K cl H O v d → RelV v u → (py d).showable = true → (py d).shown.length ≤ sizeLine → Shw X.prog X.w s.heap u (py d)
  | n, .non, _, _, _, r, ru, _, _ => by cases r; cases ru; exact shw_none
  | n, .bl b, _, _, _, r, ru, _, _ => by cases r; cases ru; exact shw_bool b
  | n, .int i, _, _, _, r, ru, hs, _ => by cases r; obtain ⟨t, rfl⟩ := ru; exact shw_int i t (by simpa [py, PyData.showable] using hs)
  | n, .str x, _, _, _, r, ru, _, hz => by cases r; obtain ⟨t, rfl⟩ := ru; exact shw_str x t (by simpa only [py, PyData.shown] using hz)
  | 0, .tup xs, _, _, p, _, _, _, _ => by simp [pln] at p
  | n + 1, .tup xs, v, u, p, r, ru, hs, hz => by
    have p : plnL n xs = true := by simpa [pln] using p
    have hs : PyData.showableAll (pyL xs) = true := by simpa [py, PyData.showable] using hs
    have hz : (tupleText (PyData.shownAll (pyL xs))).length ≤ sizeLine := by simpa only [py, PyData.shown] using hz
    obtain ⟨a, vs, rfl, ha, q⟩ := RepB.tup (.inl r)
    cases ru
    obtain ⟨its, rv, ⟨o, ho, hc, k, hd⟩, _⟩ := I.tuple ha
    simp only [py]
    exact shw_tup ho hc hd (RepA.shw I n xs p q rv hs fun t ht => Nat.le_trans (tupleText_mem_le ht) hz) hz
  | 0, .lst xs, _, _, p, _, _, _, _ => by simp [pln] at p
  | n + 1, .lst xs, v, u, p, r, ru, hs, hz => by
    have p : plnL n xs = true := by simpa [pln] using p
    have hs : PyData.showableAll (pyL xs) = true := by simpa [py, PyData.showable] using hs
    have hz : (listText (PyData.shownAll (pyL xs))).length ≤ sizeLine := by simpa only [py, PyData.shown] using hz
    obtain ⟨a, vs, rfl, ha, q⟩ := RepB.lst (.inl r)
    cases ru
    obtain ⟨its, rv, ⟨o, k, ho, hc, _, hd⟩, _⟩ := I.list (SqL.of ha)
    simp only [py]
    exact shw_list ho hc hd (RepA.shw I n xs p q rv hs fun t ht => Nat.le_trans (listText_mem_le ht) hz) hz
  | 0, .dct _ _, _, _, p, _, _, _, _ => by simp [pln] at p
  | _, .fz _, _, _, p, _, _, _, _ => by simp [pln] at p
  | n + 1, .dct true _, _, _, p, _, _, _, _ => by simp [pln] at p
  | n + 1, .dct false kvs, v, u, p, r, ru, hs, hz => by
    have p : plnL n (kvs.map (·.2)) = true := by simpa [pln] using p
    have hs : PyData.showableKv (pyK kvs) = true := by simpa [py, PyData.showable] using hs
    have hz : (dictText (PyData.shownKv (pyK kvs))).length ≤ sizeLine := by simpa only [py, PyData.shown] using hz
    obtain ⟨hs1, hs2⟩ := PyData.showableKv_split _ hs
    cases r with
    | dK e _ ek q =>
      cases ru
      obtain ⟨z, low, vs, rel, o, es, ep, ho, hx, hd, _, hp, _⟩ := dk_of I.hok e
      simp only [py]
      have l1 : ∀ t ∈ PyData.shownAll ((pyK kvs).map (·.1)), t.length ≤ sizeLine := fun t ht => by
        obtain ⟨y, hy, hl⟩ := PyData.shownKv_key_le _ t ht
        exact Nat.le_trans hl (Nat.le_trans (dictText_mem_le hy) hz)
      have l2 : ∀ t ∈ PyData.shownAll ((pyK kvs).map (·.2)), t.length ≤ sizeLine := fun t ht => by
        obtain ⟨y, hy, hl⟩ := PyData.shownKv_val_le _ t ht
        exact Nat.le_trans hl (Nat.le_trans (dictText_mem_le hy) hz)
      have e1 : (pyK kvs).map (·.1) = pyL (kvs.map (·.1)) := by rw [pyK_fst, pyL_map, List.map_map]; rfl
      rw [e1] at hs1 l1
      rw [pyK_snd] at hs2 l2
      refine shw_dict ho hx.1 hd low ?_ ?_ hz
      · rw [e1]
        exact shw_keys hp rel ek hs1 l1
      · rw [pyK_snd]
        exact RepA.shw I n _ p q (vals_of_pairs hp rel) hs2 l2
  | n, .scr _, _, _, p, _, _, _, _ => by simp [pln] at p
  | n, .obj _ _, _, _, p, _, _, _, _ => by simp [pln] at p
theorem RepA.shw (I : Inv X pins σ H s) : ∀ (n : Nat) (ds : List D) {vs : List V} {us : List Value}, plnL n ds = true → RepA X.K cl H O vs ds → Vals vs us → PyData.showableAll (pyL ds) = true → (∀ t ∈ PyData.shownAll (pyL ds), t.length ≤ sizeLine) → ShwL X.prog X.w s.heap us (pyL ds)
  | n, [], _, _, _, r, ru, _, _ => by cases r; cases ru; exact shw_nil
  | n, d :: ds, _, _, p, r, ru, hs, hz => by
    have p : pln n d = true ∧ plnL n ds = true := by simpa [plnL] using p
    have hs : (py d).showable = true ∧ PyData.showableAll (pyL ds) = true := by simpa [pyL, PyData.showableAll] using hs
    cases r with
    | cons r1 r2 =>
      cases ru with
      | cons u1 u2 =>
        rw [pyL]
        exact shw_cons (Rep.shw I n d p.1 r1 u1 hs.1 (hz _ (by simp [pyL, PyData.shownAll]))) (RepA.shw I n ds p.2 r2 u2 hs.2 fun t ht => hz t (by
          rw [pyL, PyData.shownAll]
          exact List.mem_cons_of_mem _ ht))
end
theorem RepB.pure {K : PySem.W.Frag} {v : V} {d : D} (h : RepB K cl H O v d) : PD.Rep K cl H (fun _ => False) v d := by
  rcases h with h | ⟨a, rfl, h⟩
  · exact h.shrink fun _ z => z.elim
  · exact h.rep (fun _ z => z.elim) fun z => z
theorem gb_repr {d c : D} (hg : X.A.guards = some []) (hu : X.A.units + 70 < cLine) (h : b1D .repr d = some c) : ∃ r, GB X (.builtin "repr") r ∧ ∀ (x : V) (H : Hp) (Q : VK) (O : Addr → Prop), (∀ a, O a → (H a).isSome = true) → RepB X.K cl H O x d →
    (∀ v H', Same H H' → PD.Rep X.K cl H' O v c → Q v H') → r x H Q := by
  have h : (if pln 60 d && (py d).showable && decide ((py d).shown.length ≤ sizeLine) && decide ((py d).depth ≤ 60) then some (D.str (py d).shown) else none) = some c := by
    cases d <;> exact h
  split at h
  · rename_i hf
    cases h
    simp only [Bool.and_eq_true, decide_eq_true_eq] at hf
    obtain ⟨⟨⟨h1, h2⟩, h3⟩, h4⟩ := hf
    refine ⟨fun x H Q => PD.Rep X.K cl H (fun _ => False) x d ∧ Q (.str (py d).shown) H, fun pins s σ H xs us Q I rv q => ?_, fun x H Q O hO rx q => ⟨rx.pure, q _ _ (Same.refl H) (.str _)⟩⟩
    obtain ⟨x, rfl, rx, q⟩ := q
    obtain ⟨u, rfl, ru⟩ := vals1 rv
    refine (Rep.shw I 60 d h1 rx ru h2 h3).go X.A X.xe s _ hg (by omega) (fun b o e => e) fun h' t tk hk => ?_
    exact ⟨.str _, H, I.kept (h' := h') (t' := tk) hk, ⟨t, rfl⟩, q⟩
  · cases h
variable {p : Pr} {W : WX} {G : List D} {cf : Nat → List D → C}
theorem s_repr (hK : X.K = p.K) (hg : X.A.guards = some []) (hu : X.A.units + 70 < cLine) {a : Ex} {xa : Expr} {p1 pos : Pos} (bn : BName X "repr" (.builtin "repr")) (ha : SE p W X G cf a xa)
    (he : starEach [xa] X.env = (false, eval xa X.env) :: starEach [] X.env) (hpl : (backTo pos (starEach [] X.env)).any (·.1) = false) : SE p W X G cf (.b1 .repr a) (.Call (.Name "repr" p1) [xa] [] pos) := fun ρ => by
  simp only [evE]
  refine one (good := GB X (.builtin "repr")) (fun r ta g h1 => call1 bn he hpl r ta g h1) gb_false (b1D .repr) (fun d c h => ?_) ha rfl ρ
  rw [← hK]
  exact gb_repr hg hu h
end
end PD
end

section
set_option Elab.async false
set_option linter.all false
set_option maxRecDepth 100000
set_option maxHeartbeats 1000000
/-! PD9: what a def promises, and its call -/
namespace PD
open PySem PySem.Spec PyProof.Rows L2

/-! ### functions whose promise holds where no text is being made -/
structure FG (P : Program) (w : World) (K : PySem.W.Frag) (mg : Str → Option Value) (base : Heap) (k : Nat) (f : Addr) (fd : FuncData) (ps : List Str) (sp : Sp) : Prop where
  len : ∀ vs H Q E, sp vs H Q E → vs.length = ps.length
  run : ∀ (A : Around) (outer : List PySem.Env) (s : Shared) (H : Hp) (args : Args) (us : List Value) (vs : List V) (Q : VK) (E : XK), A.guards = some [] → Room k A → Env0 P w K mg base A outer s H → BindsTo s fd args (ps.zip us) → Vals vs us → sp vs H Q E →
    codeAny (model P w) A (.call (.ref f) args) (CR (L2.CX P w) outer P w H s Q E) s
section
variable {P : Program} {w : World} {K : PySem.W.Frag} {mg : Str → Option Value} {base : Heap} {k : Nat} {f : Addr} {name qual : Str} {params : Arguments} {body : List Stmt} {scope : Scope} {dV kV doc pm cdv ct oc : Value} {an od : Option Addr}
  {osl : Array (Option Value)} {N ps : List Str} {sp : Sp}
theorem fg_of (at_ : K.lookup f = some ⟨oc, od, .func (PySem.W.fnOf name qual params body scope dV kV doc pm an cdv ct), osl⟩) (cdIn : PySem.W.codeIn K cdv qual = true) (S : FnScope N ps scope) (len : ∀ vs H Q E, sp vs H Q E → vs.length = ps.length)
    (inside : ∀ (A : Around) (outer : List PySem.Env) (s : Shared) (H : Hp) (vs : List V) (Q : VK) (E : XK), A.guards = some [] → Room k (A.deeper (envOfC qual scope s.heap.objs.size f cdv)) → sp vs H Q E →
      ∃ t, PSs (cxOf (L2.CX P w) P w K mg base N qual scope f cdv A outer s H E) body t ∧ t { nx := fun _ H' => Q .non H', rt := Q } (start N vs) H) :
    FG P w K mg base (k + 1) f (PySem.W.fnOf name qual params body scope dV kV doc pm an cdv ct) ps sp := by
  refine ⟨len, fun A outer s H args us vs Q E gd room e0 bt rv want => ?_⟩
  have l0 := len _ _ _ _ want
  have inH : K.In s.heap := e0.mod.kin.keeps fun b o e => (e0.bs b o e).1
  have lim : s.heap.NoLimit := e0.mod.nolimit.keeps fun b o e => (e0.bs b o e).1
  have kinds : ∀ y ∈ ps.zip us, scope.names.lookup y.1 = some .local ∨ (scope.names.lookup y.1 = some .cell ∧ ((cellsFrom (s.heap.objs.size + 1) scope.names []).lookup y.1).isSome = true) := by
    intro y hy
    rcases S.par y.1 (List.of_mem_zip hy).1 with z | z
    · exact Or.inl z
    · exact Or.inr ⟨z, PySem.W.cellsFrom_some _ _ _ (Or.inl z)⟩
  apply codeAny_call_function room.depth (inH _ _ at_) rfl S.co S.gen rfl (PySem.W.codeRec_of inH cdIn) (bt _ _ _ _ _)
  apply wpAny_newFunctionEnv_cells S.kind kinds
  intro env he s1 x
  subst he
  refine ⟨lim.keeps x.toInCall.keep, codeAny_func ?_⟩
  obtain ⟨t, ht, hq⟩ := inside A outer s H vs Q E gd (room.deeper _) want
  have J := inv_start (CX := L2.CX P w) (E := E) (mg := mg) S room.hd e0 l0 rv x
  apply wpAny_mono (ht.run [] s1 (start N vs) H _ J hq) _ fun e s' hs => hs
  intro fl s' hs
  cases fl with
  | ret u =>
    obtain ⟨v, σ', H', J', rv', q⟩ := hs
    exact ⟨v, H', J'.os, J'.bare, J'.base, J'.hok, rv', q⟩
  | next =>
    obtain ⟨σ', H', J', q⟩ := hs
    exact ⟨V.non, H', J'.os, J'.bare, J'.base, J'.hok, rfl, q⟩
  | brk => exact (hs.elim fun _ z => z.elim fun _ z => z.2.elim)
  | cont => exact (hs.elim fun _ z => z.elim fun _ z => z.2.elim)
end
section
variable {X : Cx} {k : Nat} {f : Addr} {fd : FuncData} {ps : List Str} {sp : Sp} {x : Str} {p1 pos : Pos} {e : Expr} {es : List Expr} {t : TA} {W : WX}
theorem fg_run {pins : List (Addr × Obj)} {σ : L2.St} {H : Hp} {s : Shared} {Q : VK} {us : List Value} {vs : List V} (F : FG X.prog X.w X.K X.mg X.base k f fd ps sp) (gd : X.A.guards = some []) (room : Room k X.A) (hb : Binds X.K fd ps []) (tk : Takes X W)
    (I : Inv X pins σ H s) (r : Vals vs us) (h : sp vs H Q (WE W σ)) : wpAny (model X.prog X.w) X.A (call (.ref f) us) (EP X pins σ Q) X.xe s := by
  have l0 : us.length = ps.length := (r.length.symm).trans (F.len _ _ _ _ h)
  have b := hb s us I.kIn (by rw [List.append_nil]; exact l0)
  rw [List.append_nil] at b
  apply wpAny_call
  refine codeAny_mono (F.run X.A X.stack s H ⟨us, []⟩ us vs Q (WE W σ) gd room I.env0 b r h) ?_
  intro res s' hq
  cases res with
  | error er => exact passAt tk σ pins H s er s' I hq
  | ok fl =>
    cases fl with
    | ret u => exact I.after hq
    | next => cases hq
    | brk => cases hq
    | cont => cases hq
def tCal (sp : Sp) (W : WX) (t : TA) : TE := fun σ H Q => t σ H fun vs H1 => sp vs H1 Q (WE W σ)
theorem pe_cal (F : FG X.prog X.w X.K X.mg X.base k f fd ps sp) (gd : X.A.guards = some []) (room : Room k X.A) (hg : Gl X x) (hm : X.mg x = some (.ref f)) (hk : PySem.W.keepIn X.K (.ref f) = true) (hb : Binds X.K fd ps []) (tk : Takes X W)
    (ha : PA X (e :: es) t) (hdb : (x == ("__debug__" : Str)) = false) (he : starEach (e :: es) X.env = (false, eval e X.env) :: starEach es X.env) (hpl : (backTo pos (starEach es X.env)).any (·.1) = false) :
    PE X (.Call (.Name x p1) (e :: es) [] pos) (tCal sp W t) := by
  constructor
  intro pins s σ H Q I h
  apply wpAny_Call_Name_kw
  refine ld_glob I hg hm ?_ hdb
  refine PySem.W.callWith_K (h₀ := X.base) I.ok.mod.kin hk (thn (ha.run pos pins s σ H _ I h) ?_) he hpl
  rintro us s1 ⟨vs, H1, I1, r, q⟩
  exact ⟨I1.kIn, fg_run F gd room hb tk I1 r q⟩
theorem pe_cal0 (F : FG X.prog X.w X.K X.mg X.base k f fd ps sp) (gd : X.A.guards = some []) (room : Room k X.A) (hg : Gl X x) (hm : X.mg x = some (.ref f)) (hk : PySem.W.keepIn X.K (.ref f) = true) (hb : Binds X.K fd ps []) (tk : Takes X W)
    (hdb : (x == ("__debug__" : Str)) = false) : PE X (.Call (.Name x p1) [] [] pos) (tCal sp W tNil) := by
  constructor
  intro pins s σ H Q I h
  apply wpAny_Call_Name_kw
  refine ld_glob I hg hm ?_ hdb
  exact PySem.W.callWith_K0 I.kIn hk (fg_run (us := []) F gd room hb tk I .nil h)
end

/-! ### the promise -/
def ArgsR (K : PySem.W.Frag) (cl : Nat → Addr) (H : Hp) (Z : Addr → Prop) : List Bool → List V → List D → Prop
  | [], [], [] => True
  | true :: io, v :: vs, d :: ds => (∃ a, v = .ref a ∧ Z a ∧ PD.Own K cl H Z a d) ∧ ArgsR K cl H Z io vs ds
  | false :: io, v :: vs, d :: ds => PD.Rep K cl H Z v d ∧ ArgsR K cl H Z io vs ds
  | _, _, _ => False
/-- the cells of the changed arguments -/
def IoA (io : List Bool) (vs : List V) (a : Addr) : Prop := ∃ i : Nat, io[i]? = some true ∧ vs[i]? = some (.ref a)
structure Keep (io : List Bool) (vs : List V) (H H' : Hp) : Prop where
  fr : ∀ a o, ¬ IoA io vs a → H a = some o → H' a = some o
  dom : ∀ a, (H a).isSome = true → (H' a).isSome = true
def OwnR (K : PySem.W.Frag) (cl : Nat → Addr) (H : Hp) (O : Addr → Prop) (io : List Bool) (vs : List V) (ρ : Env) : Prop :=
  ∀ (i : Nat) (a : Addr), io[i]? = some true → vs[i]? = some (.ref a) → ∃ d, ρ[i]? = some (some d) ∧ PD.Own K cl H O a d
def XRepZ (K : PySem.W.Frag) (cl : Nat → Addr) (xn : Nat → List Str) (H : Hp) (O : Addr → Prop) (dx : Option Addr) (c : Nat) (fs : List D) : Prop :=
  (fs = [] ∧ xn c = [] ∧ dx = none) ∨ ∃ a fv, dx = some a ∧ H a = some (.xd fv) ∧ ¬ O a ∧ fv.map (·.1) = xn c ∧ RepA K cl H O (fv.map (·.2)) fs
structure Gv where
  K : PySem.W.Frag
  cl : Nat → Addr
  xc : Nat → Addr
  xn : Nat → List Str
def spC (g : Gv) (F : Fn) (cf : List D → C) : Sp := fun vs H Q E => ∃ (Z : Addr → Prop) (ds : List D), vs.length = F.np ∧ (∀ a, Z a → (H a).isSome = true) ∧ ArgsR g.K g.cl H Z F.io vs ds ∧
  (∀ (i j : Nat) (a : Addr), F.io[i]? = some true → F.io[j]? = some true → vs[i]? = some (.ref a) → vs[j]? = some (.ref a) → i = j) ∧
  match cf ds with
  | .ok d io => if F.fresh = true then ∀ a H', Keep F.io vs H H' → H a = none → OwnR g.K g.cl H' (fun b => Z b ∨ b = a) F.io vs io → PD.Own g.K g.cl H' (fun b => Z b ∨ b = a) a d → Q (.ref a) H'
    else ∀ v H', Keep F.io vs H H' → OwnR g.K g.cl H' Z F.io vs io → PD.Rep g.K g.cl H' Z v d → Q v H'
  | .ex c fs io => ∀ dx H', Keep F.io vs H H' → OwnR g.K g.cl H' Z F.io vs io → XRepZ g.K g.cl g.xn H' Z dx c fs → E (.ref (g.xc c)) dx H'
  | .no => False

section
variable {p : Pr} {W : WX} {X : Cx} {G : List D} {cf : Nat → List D → C}
/-- the arguments: own ones where the callee changes them, clean ones elsewhere -/
def argsOk : List Bool → Exs → Bool
  | [], .nil => true
  | m :: ms, .cons e es => (m == (isBor e).isSome) && argsOk ms es
  | _, _ => false
/-- the own slot at an argument's place -/
def slotAt : Exs → Nat → Option Nat
  | .nil, _ => none
  | .cons e _, 0 => isBor e
  | .cons _ es, i + 1 => slotAt es i
theorem mem_bors : ∀ {es : Exs} {i j : Nat}, slotAt es i = some j → j ∈ bors es
  | .nil, _, _, h => by cases h
  | .cons e es, 0, j, h => by
    have h : isBor e = some j := h
    unfold bors
    rw [h]
    exact List.mem_cons_self ..
  | .cons e es, i + 1, j, h => by
    have := mem_bors (es := es) (i := i) h
    unfold bors
    cases isBor e with
    | none => exact this
    | some _ => exact List.mem_cons_of_mem _ this
theorem slot_of_mem : ∀ {es : Exs} {j : Nat}, j ∈ bors es → ∃ i, slotAt es i = some j
  | .nil, _, h => by cases h
  | .cons e es, j, h => by
    unfold bors at h
    cases q : isBor e with
    | none =>
      rw [q] at h
      obtain ⟨i, hi⟩ := slot_of_mem (es := es) h
      exact ⟨i + 1, hi⟩
    | some k =>
      rw [q] at h
      rcases List.mem_cons.mp h with h | h
      · exact ⟨0, by show isBor e = _; rw [q, h]⟩
      · obtain ⟨i, hi⟩ := slot_of_mem (es := es) h
        exact ⟨i + 1, hi⟩
theorem slot_inj : ∀ {es : Exs} {i k j : Nat}, (bors es).Nodup → slotAt es i = some j → slotAt es k = some j → i = k
  | .nil, _, _, _, _, h, _ => by cases h
  | .cons e es, 0, 0, _, _, _, _ => rfl
  | .cons e es, 0, k + 1, j, n, h, h2 => by
    have h : isBor e = some j := h
    have m := mem_bors (es := es) (i := k) h2
    unfold bors at n
    rw [h] at n
    exact ((List.nodup_cons.mp n).1 m).elim
  | .cons e es, i + 1, 0, j, n, h, h2 => by
    have h2 : isBor e = some j := h2
    have m := mem_bors (es := es) (i := i) h
    unfold bors at n
    rw [h2] at n
    exact ((List.nodup_cons.mp n).1 m).elim
  | .cons e es, i + 1, k + 1, j, n, h, h2 => by
    have n2 : (bors es).Nodup := by
      unfold bors at n
      cases q : isBor e with
      | none => rw [q] at n; exact n
      | some _ => rw [q] at n; exact (List.nodup_cons.mp n).2
    rw [slot_inj (es := es) n2 h h2]
theorem putIo_len : ∀ {es : Exs} {io : Env} {ρ : Env}, (putIo ρ es io).length = ρ.length
  | .nil, io, _ => by cases io <;> simp [putIo]
  | .cons _ _, [], _ => by simp [putIo]
  | .cons e es, o :: os, ρ => by
    unfold putIo
    cases isBor e with
    | none => exact putIo_len (es := es)
    | some j => rw [putIo_len (es := es), List.length_set]
theorem putIo_out : ∀ {es : Exs} {io : Env} {ρ : Env} {j : Nat}, j ∉ bors es → lk (putIo ρ es io) j = lk ρ j
  | .nil, io, _, _, _ => by cases io <;> simp [putIo]
  | .cons _ _, [], _, _, _ => by simp [putIo]
  | .cons e es, o :: os, ρ, j, h => by
    unfold putIo
    unfold bors at h
    cases q : isBor e with
    | none =>
      rw [q] at h
      exact putIo_out (es := es) h
    | some k =>
      rw [q] at h
      simp only at h ⊢
      rw [putIo_out (es := es) fun z => h (List.mem_cons_of_mem _ z)]
      exact lk_set_ne fun z => h (by rw [z]; exact List.mem_cons_self ..)
theorem putIo_in : ∀ {es : Exs} {io : Env} {ρ : Env} {i j : Nat} {d : D}, (bors es).Nodup → slotAt es i = some j → j < ρ.length → io[i]? = some (some d) → lk (putIo ρ es io) j = some d
  | .nil, _, _, _, _, _, _, h, _, _ => by cases h
  | .cons _ _, [], _, _, _, _, _, _, _, h => by simp at h
  | .cons e es, o :: os, ρ, 0, j, d, n, h, hj, hd => by
    have h : isBor e = some j := h
    unfold bors at n
    rw [h] at n
    unfold putIo
    rw [h]
    simp only
    rw [putIo_out (List.nodup_cons.mp n).1, lk_set_eq hj]
    simpa using hd
  | .cons e es, o :: os, ρ, i + 1, j, d, n, h, hj, hd => by
    have hd : os[i]? = some (some d) := by simpa using hd
    have h : slotAt es i = some j := h
    unfold bors at n
    unfold putIo
    cases q : isBor e with
    | none => rw [q] at n; exact putIo_in (es := es) n h hj hd
    | some k =>
      rw [q] at n
      exact putIo_in (es := es) (List.nodup_cons.mp n).2 h (by rw [List.length_set]; exact hj) hd
/-- an own argument's value stands in its slot -/
theorem ValL.slot {σ : L2.St} {H : Hp} {Wr : Addr → Prop} : ∀ {es : Exs} {vs : List V} {ds : List D} {i j : Nat}, ValL p σ H Wr es vs ds → slotAt es i = some j → ∃ v, vs[i]? = some v ∧ p.M j = true ∧ σ[j]? = some (some v)
  | .nil, _, _, _, _, _, h => by cases h
  | .cons e es, v :: vs, d :: ds, 0, j, w, h => by
    have h : isBor e = some j := h
    have w1 := w.1
    unfold Val at w1
    rw [h] at w1
    exact ⟨v, rfl, w1⟩
  | .cons e es, v :: vs, d :: ds, i + 1, j, w, h => by
    obtain ⟨u, h1, h2⟩ := ValL.slot (es := es) w.2 (i := i) h
    exact ⟨u, by simpa using h1, h2⟩
  | .cons _ _, [], _, _, _, w, _ => w.elim
  | .cons _ _, _ :: _, [], _, _, w, _ => w.elim
theorem args_of {σ : L2.St} {H : Hp} {Wr : Addr → Prop} {ρ : Env} (r : Rel p ρ σ H Wr) : ∀ {io : List Bool} {es : Exs} {vs : List V} {ds ds' : List D}, argsOk io es = true → ValL p σ H Wr es vs ds → fxs es ds ρ = some ds' → ArgsR p.K p.cl H (p.O Wr) io vs ds' ∧ vs.length = io.length
  | [], .nil, [], [], ds', _, _, q => by cases q; exact ⟨trivial, rfl⟩
  | m :: ms, .cons e es, v :: vs, d :: ds, ds', a, w, q => by
    have a : (m == (isBor e).isSome) = true ∧ argsOk ms es = true := by simpa [argsOk] using a
    simp only [fxs] at q
    cases e1 : fx e d ρ with
    | none => rw [e1] at q; cases q
    | some d1 =>
      cases e2 : fxs es ds ρ with
      | none => rw [e1, e2] at q; cases q
      | some r2 =>
        rw [e1, e2] at q
        cases q
        obtain ⟨h1, h2⟩ := args_of r a.2 w.2 e2
        refine ⟨?_, by rw [List.length_cons, List.length_cons, h2]⟩
        have w1 := w.1
        cases z : isBor e with
        | none =>
          have hm : m = false := by have := a.1; rw [z] at this; simpa using this
          subst hm
          have e3 : some d = some d1 := (fx_clean z d ρ).symm.trans e1
          cases e3
          exact ⟨w1.rep z, h1⟩
        | some j =>
          have hm : m = true := by have := a.1; rw [z] at this; simpa using this
          subst hm
          unfold Val at w1
          rw [z] at w1
          have e3 : lk ρ j = some d1 := by
            cases e <;> first | (cases z; exact e1) | cases z
          obtain ⟨b, h3, h4, h5, _⟩ := r.own j d1 w1.1 e3
          rw [w1.2] at h3
          cases h3
          exact ⟨⟨b, rfl, .inr h4, h5⟩, h1⟩
  | [], .cons _ _, _, _, _, a, _, _ => by simp [argsOk] at a
  | _ :: _, .nil, _, _, _, a, _, _ => by simp [argsOk] at a
  | [], .nil, _ :: _, _, _, _, w, _ => w.elim
  | [], .nil, [], _ :: _, _, _, w, _ => w.elim
  | _ :: _, .cons _ _, [], _, _, _, w, _ => w.elim
  | _ :: _, .cons _ _, _ :: _, [], _, _, w, _ => w.elim
theorem argsOk_slot : ∀ {io : List Bool} {es : Exs} {i : Nat}, argsOk io es = true → (io[i]? = some true ↔ ∃ j, slotAt es i = some j)
  | [], .nil, i, _ => by simp [slotAt]
  | m :: ms, .cons e es, 0, a => by
    have a : (m == (isBor e).isSome) = true ∧ argsOk ms es = true := by simpa [argsOk] using a
    show some m = some true ↔ ∃ j, isBor e = some j
    have h := a.1
    cases z : isBor e <;> rw [z] at h <;> simp_all
  | m :: ms, .cons e es, i + 1, a => by
    have a : (m == (isBor e).isSome) = true ∧ argsOk ms es = true := by simpa [argsOk] using a
    have := argsOk_slot (i := i) a.2
    simpa [slotAt] using this
  | [], .cons _ _, _, a => by simp [argsOk] at a
  | _ :: _, .nil, _, a => by simp [argsOk] at a
/-- behind a call: the caller's state -/
theorem Rel.called {σ : L2.St} {H H' : Hp} {Wr Wr' : Addr → Prop} {ρ : Env} {F : Fn} {es : Exs} {vs : List V} {ds : List D} {io : Env} (r : Rel p ρ σ H Wr) (a : argsOk F.io es = true) (nd : (bors es).Nodup) (w : ValL p σ H Wr es vs ds) (hin : ∀ j ∈ bors es, (lk ρ j).isSome = true)
    (k : Keep F.io vs H H') (h1 : ∀ b, Wr b → Wr' b) (h2 : ∀ b, (H b).isSome = true → p.O Wr' b → p.O Wr b) (h3 : ∀ b, p.O Wr' b → (H' b).isSome = true) (ow : OwnR p.K p.cl H' (p.O Wr') F.io vs io) : Rel p (putIo ρ es io) σ H' Wr' := by
  have pos : ∀ j ∈ bors es, ∃ i a d d0, slotAt es i = some j ∧ vs[i]? = some (.ref a) ∧ p.M j = true ∧ lk ρ j = some d0 ∧ σ[j]? = some (some (.ref a)) ∧ Wr a ∧ (p.Z a → (j, a) ∈ p.io) ∧ lk (putIo ρ es io) j = some d ∧ p.Own H' Wr' a d := fun j hj => by
    obtain ⟨i, hi⟩ := slot_of_mem hj
    obtain ⟨v, e1, m, e2⟩ := w.slot hi
    obtain ⟨d0, e3⟩ := Option.isSome_iff_exists.mp (hin j hj)
    obtain ⟨b, e4, e5, _, e7⟩ := r.own j d0 m e3
    rw [e2] at e4
    cases e4
    obtain ⟨d, e8, e9⟩ := ow i b ((argsOk_slot a).mpr ⟨j, hi⟩) e1
    exact ⟨i, b, d, d0, hi, e1, m, e3, e2, e5, e7, putIo_in nd hi (lk_lt e3) e8, e9⟩
  have inIo : ∀ b, IoA F.io vs b → ∃ j ∈ bors es, p.M j = true ∧ (lk ρ j).isSome = true ∧ σ[j]? = some (some (.ref b)) ∧ Wr b := fun b hb => by
    obtain ⟨i, e1, e2⟩ := hb
    obtain ⟨j, hj⟩ := (argsOk_slot a).mp e1
    obtain ⟨i', b', d, d0, q1, q2, q3, q4, q5, q6, _⟩ := pos j (mem_bors hj)
    have := slot_inj nd hj q1
    subst this
    rw [e2] at q2
    cases q2
    exact ⟨j, mem_bors hj, q3, by rw [q4]; rfl, q5, q6⟩
  have fr : ∀ b o, ¬ p.O Wr b → H b = some o → H' b = some o := fun b o n e => k.fr b o (fun z => by
    obtain ⟨_, _, _, _, _, wb⟩ := inIo b z
    exact n (.inr wb)) e
  have same : ∀ j, j ∉ bors es → lk (putIo ρ es io) j = lk ρ j := fun j h => putIo_out h
  have some_of : ∀ j, (lk (putIo ρ es io) j).isSome = true → (lk ρ j).isSome = true := fun j h => by
    by_cases z : j ∈ bors es
    · exact hin j z
    · rwa [same j z] at h
  refine ⟨by rw [putIo_len]; exact r.len, h3, fun j d m e => ?_, fun j d m e => ?_, fun i j b mi mj hi hj => r.inj i j b mi mj (some_of i hi) (some_of j hj), fun q hq => ?_⟩
  · have nj : j ∉ bors es := fun z => by
      obtain ⟨_, _, _, _, _, _, m', _⟩ := pos j z
      rw [m] at m'; cases m'
    rw [same j nj] at e
    obtain ⟨v, e1, e2⟩ := r.cl j d m e
    exact ⟨v, e1, e2.frame fr h2⟩
  · by_cases z : j ∈ bors es
    · obtain ⟨i, b, d2, d0, q1, q2, q3, q4, q5, q6, q7, q8, q9⟩ := pos j z
      rw [q8] at e
      cases e
      exact ⟨b, q5, h1 b q6, q9, q7⟩
    · rw [same j z] at e
      obtain ⟨b, e1, e2, e3, e4⟩ := r.own j d m e
      have nb : ¬ IoA F.io vs b := fun hb => by
        obtain ⟨j2, g1, g2, g3, g4, _⟩ := inIo b hb
        have := r.inj j j2 b m g2 (by rw [e]; rfl) g3 e1 g4
        subst this
        exact z g1
      obtain ⟨o, eo⟩ := Option.isSome_iff_exists.mp e3.there
      exact ⟨b, e1, h1 b e2, e3.frame ((k.fr b o nb eo).trans eo.symm) fr h2, e4⟩
  · obtain ⟨g1, g2, g3, g4⟩ := r.ioz q hq
    refine ⟨g1, ?_, g3, g4⟩
    by_cases z : q.1 ∈ bors es
    · obtain ⟨_, _, _, _, _, _, _, _, _, _, _, q8, _⟩ := pos q.1 z
      rw [q8]; rfl
    · rw [same q.1 z]; exact g2
theorem Keep.toFr {io : List Bool} {vs : List V} {H H' : Hp} {Wr : Addr → Prop} (k : Keep io vs H H') (h : ∀ b, IoA io vs b → Wr b) : Fr Wr H H' := ⟨fun a o n e => k.fr a o (fun z => n (h a z)) e, k.dom⟩
theorem fxs_in {σ : L2.St} : ∀ {es : Exs} {ds ds' : List D} {ρ : Env}, fxs es ds ρ = some ds' → ∀ j ∈ bors es, (lk ρ j).isSome = true
  | .nil, _, _, _, _, j, h => by simp [bors] at h
  | .cons e es, d :: ds, ds', ρ, q, j, h => by
    simp only [fxs] at q
    cases e1 : fx e d ρ with
    | none => rw [e1] at q; cases q
    | some d1 =>
      cases e2 : fxs es ds ρ with
      | none => rw [e1, e2] at q; cases q
      | some r2 =>
        unfold bors at h
        cases z : isBor e with
        | none => rw [z] at h; exact fxs_in (σ := σ) e2 j h
        | some i =>
          rw [z] at h
          rcases List.mem_cons.mp h with h | h
          · subst h
            have e3 : lk ρ j = some d1 := by
              cases e <;> first | (cases z; exact e1) | cases z
            rw [e3]; rfl
          · exact fxs_in (σ := σ) e2 j h
  | .cons _ _, [], _, _, q, _, _ => by simp [fxs] at q
abbrev Pr.g (p : Pr) : Gv := ⟨p.K, p.cl, p.xc, p.xn⟩
theorem cal_of {F : Fn} {n : Nat} {es : Exs} {ρ1 : Env} {ds ds' : List D} {σ : L2.St} {H H1 : Hp} {Wr : Addr → Prop} {vs : List V} {r : C} (a : argsOk F.io es = true) (nd : (bors es).Nodup) (hl : F.io.length = F.np) (r1 : Rel p ρ1 σ H1 Wr) (w : ValL p σ H1 Wr es vs ds) (hf : fxs es ds ρ1 = some ds') :
    vs.length = F.np ∧ (∀ a, p.O Wr a → (H1 a).isSome = true) ∧ ArgsR p.K p.cl H1 (p.O Wr) F.io vs ds' ∧ (∀ (i j : Nat) (a : Addr), F.io[i]? = some true → F.io[j]? = some true → vs[i]? = some (.ref a) → vs[j]? = some (.ref a) → i = j) ∧ ∀ b, IoA F.io vs b → Wr b := by
  obtain ⟨h1, h2⟩ := args_of r1 a w hf
  have at_ : ∀ (i : Nat) (b : Addr), F.io[i]? = some true → vs[i]? = some (.ref b) → ∃ j d0, slotAt es i = some j ∧ p.M j = true ∧ lk ρ1 j = some d0 ∧ σ[j]? = some (some (.ref b)) ∧ Wr b := fun i b e1 e2 => by
    obtain ⟨j, hj⟩ := (argsOk_slot a).mp e1
    obtain ⟨v, e3, m, e4⟩ := w.slot hj
    rw [e2] at e3
    cases e3
    obtain ⟨d0, e5⟩ := Option.isSome_iff_exists.mp (fxs_in (σ := σ) hf j (mem_bors hj))
    obtain ⟨b2, e6, e7, _⟩ := r1.own j d0 m e5
    rw [e4] at e6
    cases e6
    exact ⟨j, d0, hj, m, e5, e4, e7⟩
  refine ⟨h2.trans hl, r1.dom, h1, fun i j b e1 e2 e3 e4 => ?_, fun b hb => ?_⟩
  · obtain ⟨j1, d1, q1, q2, q3, q4, _⟩ := at_ i b e1 e3
    obtain ⟨j2, d2, g1, g2, g3, g4, _⟩ := at_ j b e2 e4
    have := r1.inj j1 j2 b q2 g2 (by rw [q3]; rfl) (by rw [g3]; rfl) q4 g4
    subst this
    exact slot_inj nd q1 g1
  · obtain ⟨i, e1, e2⟩ := hb
    obtain ⟨_, _, _, _, _, _, wb⟩ := at_ i b e1 e2
    exact wb
theorem s_cal {F : Fn} {n : Nat} {es : Exs} {x : Expr} (fr : F.fresh = false) (a : argsOk F.io es = true) (nd : (bors es).Nodup) (hl : F.io.length = F.np) (mk : ∀ ρ, PE X x (tCal (spC p.g F (cf n)) W (tA p W es ρ (evs G cf es ρ)))) : SE p W X G cf (.cal n es) x := fun ρ => by
  have pa := mk ρ
  simp only [evE]
  cases ea : evs G cf es ρ with
  | no => exact pe_no
  | ex c fs ρ1 =>
    rw [ea] at pa
    exact pe_imp pa fun σ H Q h => h
  | ok ds ρ1 =>
    rw [ea] at pa
    simp only [R.bind, callR]
    cases hf : fxs es ds ρ1 with
    | none => exact pe_no
    | some ds' =>
      simp only
      cases hc : cf n ds' with
      | no => exact pe_no
      | ok d io =>
        refine pe_imp pa fun σ H Q h => ?_
        obtain ⟨Wr, r, q⟩ := h
        refine ⟨Wr, r, fun vs H1 r1 f1 w1 => ?_⟩
        obtain ⟨g1, g2, g3, g4, g5⟩ := cal_of (F := F) (n := n) (r := .no) (H := H) a nd hl r1 w1 hf
        refine ⟨p.O Wr, ds', g1, g2, g3, g4, ?_⟩
        rw [hc]
        show if F.fresh = true then _ else _
        rw [fr, if_neg Bool.false_ne_true]
        intro v H' k ow rp
        refine q v H' (r1.called a nd w1 (fxs_in (σ := σ) hf) k (fun _ z => z) (fun _ _ z => z) (fun b z => k.dom b (r1.dom b z)) ow) (f1.trans (k.toFr g5)) (Val.of (p := p) rp rfl)
      | ex c fs io =>
        refine pe_imp pa fun σ H Q h => ?_
        obtain ⟨Wr, r, q⟩ := h
        refine ⟨Wr, r, fun vs H1 r1 f1 w1 => ?_⟩
        obtain ⟨g1, g2, g3, g4, g5⟩ := cal_of (F := F) (n := n) (r := .no) (H := H) a nd hl r1 w1 hf
        refine ⟨p.O Wr, ds', g1, g2, g3, g4, ?_⟩
        rw [hc]
        intro dx H' k ow xr
        exact q dx H' (r1.called a nd w1 (fxs_in (σ := σ) hf) k (fun _ z => z) (fun _ _ z => z) (fun b z => k.dom b (r1.dom b z)) ow) (f1.trans (k.toFr g5)) xr
theorem sf_cal {F : Fn} {n : Nat} {es : Exs} {x : Expr} (fr : F.fresh = true) (a : argsOk F.io es = true) (nd : (bors es).Nodup) (hl : F.io.length = F.np) (mk : ∀ ρ, PE X x (tCal (spC p.g F (cf n)) W (tA p W es ρ (evs G cf es ρ)))) : SF p W X G cf (.cal n es) x := fun ρ => by
  have pa := mk ρ
  simp only [evE]
  cases ea : evs G cf es ρ with
  | no => exact pf_no
  | ex c fs ρ1 =>
    rw [ea] at pa
    exact pe_imp pa fun σ H Q h => h
  | ok ds ρ1 =>
    rw [ea] at pa
    simp only [R.bind, callR]
    cases hf : fxs es ds ρ1 with
    | none => exact pf_no
    | some ds' =>
      simp only
      cases hc : cf n ds' with
      | no => exact pf_no
      | ok d io =>
        refine pe_imp pa fun σ H Q h => ?_
        obtain ⟨Wr, r, q⟩ := h
        refine ⟨Wr, r, fun vs H1 r1 f1 w1 => ?_⟩
        obtain ⟨g1, g2, g3, g4, g5⟩ := cal_of (F := F) (n := n) (r := .no) (H := H) a nd hl r1 w1 hf
        refine ⟨p.O Wr, ds', g1, g2, g3, g4, ?_⟩
        rw [hc]
        show if F.fresh = true then _ else _
        rw [if_pos fr]
        intro t H' k ht ow on
        have zz : (fun b => p.O Wr b ∨ b = t) = p.O (fun b => Wr b ∨ b = t) := by
          funext b
          exact propext ⟨fun z => by
            rcases z with (z | z) | z
            · exact .inl z
            · exact .inr (.inl z)
            · exact .inr (.inr z), fun z => by
            rcases z with z | z | z
            · exact .inl (.inl z)
            · exact .inl (.inr z)
            · exact .inr z⟩
        rw [zz] at ow on
        have nt : ¬ p.O Wr t := nodom r1.dom ht
        have ow0 : OwnR p.K p.cl H' (p.O Wr) F.io vs io := fun i b e1 e2 => by
          obtain ⟨d1, e3, e4⟩ := ow i b e1 e2
          exact ⟨d1, e3, e4.frame rfl (fun _ _ _ e => e) fun c _ z => z.imp id .inl⟩
        have hin := fxs_in (σ := σ) hf
        refine q t H' ?_ (r1.called a nd w1 hin k (fun _ z => z) (fun _ _ z => z) (fun b z => k.dom b (r1.dom b z)) ow0) (r1.called (Wr' := fun b => Wr b ∨ b = t) a nd w1 hin k (fun _ z => .inl z) (fun b e z => ?_) (fun b z => ?_) ow) (f1.trans (k.toFr g5)) nt on
        · cases e0 : H t with
          | none => rfl
          | some o =>
            have := f1.dom t (by rw [e0]; rfl)
            rw [ht] at this; cases this
        · rcases oz b z with z | z
          · exact z
          · rw [z, ht] at e; cases e
        · rcases oz b z with z | z
          · exact k.dom b (r1.dom b z)
          · rw [z]; exact on.there
      | ex c fs io =>
        refine pe_imp pa fun σ H Q h => ?_
        obtain ⟨Wr, r, q⟩ := h
        refine ⟨Wr, r, fun vs H1 r1 f1 w1 => ?_⟩
        obtain ⟨g1, g2, g3, g4, g5⟩ := cal_of (F := F) (n := n) (r := .no) (H := H) a nd hl r1 w1 hf
        refine ⟨p.O Wr, ds', g1, g2, g3, g4, ?_⟩
        rw [hc]
        intro dx H' k ow xr
        exact q dx H' (r1.called a nd w1 (fxs_in (σ := σ) hf) k (fun _ z => z) (fun _ _ z => z) (fun b z => k.dom b (r1.dom b z)) ow) (f1.trans (k.toFr g5)) xr
end
end PD
end

section
set_option Elab.async false
set_option linter.all false
set_option maxRecDepth 100000
set_option maxHeartbeats 1000000
/-! PD10: statements -/
namespace PD
open PySem PySem.Spec PyProof.Rows L2

/-- a frame kept by all steps: on the own cells -/
abbrev Fm := Hp → (Addr → Prop) → Prop
structure Fm.Ok (Φ : Fm) : Prop where
  step : ∀ {Wr H H1}, Φ H Wr → Fr Wr H H1 → Φ H1 Wr
  grow : ∀ {Wr H H1 t}, Φ H Wr → H t = none → Fr Wr H H1 → Φ H1 fun b => Wr b ∨ b = t
/-- from one state to a later one -/
structure FW (p : Pr) (H1 : Hp) (W1 : Addr → Prop) (H2 : Hp) (W2 : Addr → Prop) : Prop where
  fr : ∀ a o, ¬ p.O W1 a → H1 a = some o → H2 a = some o
  dom : ∀ a, (H1 a).isSome = true → (H2 a).isSome = true
  ho : ∀ a, (H1 a).isSome = true → p.O W2 a → p.O W1 a
section
variable {p : Pr} {W : WX} {X : Cx} {G : List D} {cf : Nat → List D → C} {wf : Nat}
theorem FW.refl {H : Hp} {Wr : Addr → Prop} : FW p H Wr H Wr := ⟨fun _ _ _ e => e, fun _ e => e, fun _ _ z => z⟩
theorem FW.ok (H1 : Hp) (W1 : Addr → Prop) : Fm.Ok (FW p H1 W1) where
  step := fun {Wr H H2} h f => ⟨fun a o n e => f.keep a o (fun z => n (h.ho a (by rw [e]; rfl) (.inr z))) (h.fr a o n e), fun a e => f.dom a (h.dom a e), h.ho⟩
  grow := fun {Wr H H2 t} h ht f => ⟨fun a o n e => f.keep a o (fun z => n (h.ho a (by rw [e]; rfl) (.inr z))) (h.fr a o n e), fun a e => f.dom a (h.dom a e), fun a e z => by
    rcases oz a z with z | z
    · exact h.ho a e z
    · have := h.dom a e
      rw [z, ht] at this; cases this⟩
theorem Fm.Ok.and {Φ Ψ : Fm} (a : Φ.Ok) (b : Ψ.Ok) : Fm.Ok fun H Wr => Φ H Wr ∧ Ψ H Wr where
  step := fun h f => ⟨a.step h.1 f, b.step h.2 f⟩
  grow := fun h ht f => ⟨a.grow h.1 ht f, b.grow h.2 ht f⟩
theorem Rep.fw {H1 H2 : Hp} {W1 W2 : Addr → Prop} {v : V} {d : D} (h : p.Rep H1 W1 v d) (f : FW p H1 W1 H2 W2) : p.Rep H2 W2 v d := h.frame f.fr f.ho
theorem RepA.fw {H1 H2 : Hp} {W1 W2 : Addr → Prop} {v : List V} {d : List D} (h : RepA p.K p.cl H1 (p.O W1) v d) (f : FW p H1 W1 H2 W2) : RepA p.K p.cl H2 (p.O W2) v d := h.frame f.fr f.ho

variable (p W) in
def tKS (Φ : Fm) (D : Ends) (r : SR) : Prop :=
  match r with
  | .nxt ρ => ∀ σ H Wr, Rel p ρ σ H Wr → Φ H Wr → D.nx σ H
  | .brk ρ => ∀ σ H Wr, Rel p ρ σ H Wr → Φ H Wr → D.bk σ H
  | .cnt ρ => ∀ σ H Wr, Rel p ρ σ H Wr → Φ H Wr → D.ct σ H
  | .ret d ρ => if p.fresh = true then ∀ a σ H Wr, Rel p ρ σ H Wr → Φ H Wr → Wr a → (∀ i, (i, a) ∉ p.io) → p.Own H Wr a d → D.rt (.ref a) H
    else ∀ v σ H Wr, Rel p ρ σ H Wr → Φ H Wr → PD.Rep p.K p.cl H p.Z v d → D.rt v H
  | .ex c fs ρ => ∀ dx σ H Wr, Rel p ρ σ H Wr → Φ H Wr → XRep p H Wr dx c fs → W (.ref (p.xc c)) dx σ H
  | .no => False
variable (p W) in
def tS (f : Env → SR) : TS := fun D σ H => ∃ Φ ρ Wr, Fm.Ok Φ ∧ Rel p ρ σ H Wr ∧ Φ H Wr ∧ tKS p W Φ D (f ρ)
variable (p W X G cf wf) in
def SS (s : Sm) (st : Stmt) : Prop := PS X st (tS p W (exS G cf wf s))
variable (p W X G cf wf) in
def SSs (s : Sms) (st : List Stmt) : Prop := PSs X st (tS p W (exSs G cf wf s))
theorem ps_imp {st : Stmt} {t t' : TS} (h : PS X st t) (i : ∀ D σ H, t' D σ H → t D σ H) : PS X st t' := ⟨fun pins s σ H D I q => h.run pins s σ H D I (i D σ H q)⟩
theorem pss_imp {st : List Stmt} {t t' : TS} (h : PSs X st t) (i : ∀ D σ H, t' D σ H → t D σ H) : PSs X st t' := ⟨fun pins s σ H D I q => h.run pins s σ H D I (i D σ H q)⟩
theorem ps_ex {st : Stmt} {ι : Sort _} {t : ι → TS} (h : ∀ i, PS X st (t i)) : PS X st (fun D σ H => ∃ i, t i D σ H) := ⟨fun pins s σ H D I q => by
  obtain ⟨i, q⟩ := q
  exact (h i).run pins s σ H D I q⟩
theorem pss_ex {st : List Stmt} {ι : Sort _} {t : ι → TS} (h : ∀ i, PSs X st (t i)) : PSs X st (fun D σ H => ∃ i, t i D σ H) := ⟨fun pins s σ H D I q => by
  obtain ⟨i, q⟩ := q
  exact (h i).run pins s σ H D I q⟩
theorem ps_void {st : Stmt} {t : TS} (i : ∀ D σ H, ¬ t D σ H) : PS X st t := ⟨fun pins s σ H D I q => (i D σ H q).elim⟩
variable (p W) in
/-- at one ρ -/
def tS1 (ρ : Env) (r : SR) : TS := fun D σ H => ∃ Φ Wr, Fm.Ok Φ ∧ Rel p ρ σ H Wr ∧ Φ H Wr ∧ tKS p W Φ D r
theorem ss_of {f : Env → SR} {st : Stmt} (h : ∀ ρ, PS X st (tS1 p W ρ (f ρ))) : PS X st (tS p W f) := ps_imp (ps_ex h) fun D σ H q => by
  obtain ⟨Φ, ρ, Wr, q⟩ := q
  exact ⟨ρ, Φ, Wr, q⟩
theorem sss_of {f : Env → SR} {st : List Stmt} (h : ∀ ρ, PSs X st (tS1 p W ρ (f ρ))) : PSs X st (tS p W f) := pss_imp (pss_ex h) fun D σ H q => by
  obtain ⟨Φ, ρ, Wr, q⟩ := q
  exact ⟨ρ, Φ, Wr, q⟩
theorem ps_no1 {st : Stmt} {ρ : Env} : PS X st (tS1 p W ρ .no) := ps_void fun D σ H ⟨_, _, _, _, _, k⟩ => k

theorem ss_nil : SSs p W X G cf wf .nil [] := pss_imp pss_nil fun D σ H ⟨Φ, ρ, Wr, ok, r, f, k⟩ => by
  simp only [exSs] at k
  exact k σ H Wr r f
theorem ss_cons {s : Sm} {ss : Sms} {st : Stmt} {sts : List Stmt} (h1 : SS p W X G cf wf s st) (h2 : SSs p W X G cf wf ss sts) : SSs p W X G cf wf (.cons s ss) (st :: sts) := pss_imp (pss_cons h1 h2) fun D σ H ⟨Φ, ρ, Wr, ok, r, f, k⟩ => by
  refine ⟨Φ, ρ, Wr, ok, r, f, ?_⟩
  simp only [exSs] at k
  cases e : exS G cf wf s ρ with
  | nxt ρ1 =>
    rw [e] at k
    exact fun σ1 H1 Wr1 r1 f1 => ⟨Φ, ρ1, Wr1, ok, r1, f1, k⟩
  | brk ρ1 => rw [e] at k; exact k
  | cnt ρ1 => rw [e] at k; exact k
  | ret d ρ1 => rw [e] at k; exact k
  | ex c fs ρ1 => rw [e] at k; exact k
  | no => rw [e] at k; exact k
theorem ss_pass {pos : Pos} : SS p W X G cf wf .pass (.Pass pos) := ps_imp ps_pass fun D σ H ⟨Φ, ρ, Wr, ok, r, f, k⟩ => by
  simp only [exS] at k
  exact k σ H Wr r f
theorem ss_brk {pos : Pos} : SS p W X G cf wf .brk (.Break pos) := ps_imp ps_break fun D σ H ⟨Φ, ρ, Wr, ok, r, f, k⟩ => by
  simp only [exS] at k
  exact k σ H Wr r f
theorem ss_cnt {pos : Pos} : SS p W X G cf wf .cnt (.Continue pos) := ps_imp ps_continue fun D σ H ⟨Φ, ρ, Wr, ok, r, f, k⟩ => by
  simp only [exS] at k
  exact k σ H Wr r f
/-- what an exception of an expression comes to -/
theorem ex_of {Φ : Fm} {D : Ends} {σ : L2.St} {H : Hp} {Wr : Addr → Prop} {c : Nat} {fs : List PD.D} {ρ1 : Env} (ok : Φ.Ok) (f : Φ H Wr) (k : tKS p W Φ D (.ex c fs ρ1)) : ∀ dx H1, Rel p ρ1 σ H1 Wr → Fr Wr H H1 → XRep p H1 Wr dx c fs → W (.ref (p.xc c)) dx σ H1 :=
  fun dx H1 r1 f1 x => k dx σ H1 Wr r1 (ok.step f f1) x
theorem tKS.clean {Φ : Fm} {D : Ends} {d : PD.D} {ρ : Env} (fr : p.fresh = false) (k : tKS p W Φ D (.ret d ρ)) : ∀ v σ H Wr, Rel p ρ σ H Wr → Φ H Wr → PD.Rep p.K p.cl H p.Z v d → D.rt v H := by
  have k : (if p.fresh = true then _ else _) := k
  rwa [fr, if_neg Bool.false_ne_true] at k
theorem tKS.own {Φ : Fm} {D : Ends} {d : PD.D} {ρ : Env} (fr : p.fresh = true) (k : tKS p W Φ D (.ret d ρ)) : ∀ a σ H Wr, Rel p ρ σ H Wr → Φ H Wr → Wr a → (∀ i, (i, a) ∉ p.io) → p.Own H Wr a d → D.rt (.ref a) H := by
  have k : (if p.fresh = true then _ else _) := k
  rwa [if_pos fr] at k
theorem ss_expr {e : Ex} {x : Expr} {pos : Pos} (h : SE p W X G cf e x) (hs : swapsWith x none pos.line X.env = pure false) : SS p W X G cf wf (.expr e) (.Expr x pos) := ss_of fun ρ => by
  have pa := h ρ
  simp only [exS]
  cases ea : evE G cf e ρ with
  | no => exact ps_no1
  | ex c fs ρ1 =>
    rw [ea] at pa
    exact ps_imp (ps_expr pa hs) fun D σ H ⟨Φ, Wr, ok, r, f, k⟩ => ⟨Wr, r, ex_of ok f k⟩
  | ok d ρ1 =>
    rw [ea] at pa
    exact ps_imp (ps_expr pa hs) fun D σ H ⟨Φ, Wr, ok, r, f, k⟩ => ⟨Wr, r, fun v H1 r1 f1 _ => k σ H1 Wr r1 (ok.step f f1)⟩
theorem ss_ret {e : Ex} {x : Expr} {pos : Pos} (fr : p.fresh = false) (h : SE p W X G cf e x) (n : isBor e = none) : SS p W X G cf wf (.ret e) (.Return (some x) pos) := ss_of fun ρ => by
  have pa := h ρ
  simp only [exS]
  cases ea : evE G cf e ρ with
  | no => exact ps_no1
  | ex c fs ρ1 =>
    rw [ea] at pa
    exact ps_imp (ps_ret pa) fun D σ H ⟨Φ, Wr, ok, r, f, k⟩ => ⟨Wr, r, ex_of ok f k⟩
  | ok d ρ1 =>
    rw [ea] at pa
    refine ps_imp (ps_ret pa) fun D σ H ⟨Φ, Wr, ok, r, f, k⟩ => ⟨Wr, r, fun v H1 r1 f1 w1 => ?_⟩
    exact tKS.clean fr k v σ H1 Wr r1 (ok.step f f1) ((w1.rep n).shrink fun a z => .inl z)
theorem ss_retF {e : Ex} {x : Expr} {pos : Pos} (fr : p.fresh = true) (h : SF p W X G cf e x) : SS p W X G cf wf (.ret e) (.Return (some x) pos) := ss_of fun ρ => by
  have pa := h ρ
  simp only [exS]
  cases ea : evE G cf e ρ with
  | no => exact ps_no1
  | ex c fs ρ1 =>
    rw [ea] at pa
    exact ps_imp (ps_ret pa) fun D σ H ⟨Φ, Wr, ok, r, f, k⟩ => ⟨Wr, r, ex_of ok f k⟩
  | ok d ρ1 =>
    rw [ea] at pa
    refine ps_imp (ps_ret pa) fun D σ H ⟨Φ, Wr, ok, r, f, k⟩ => ⟨Wr, r, fun a H1 na r1 r2 f1 no ow => ?_⟩
    refine tKS.own fr k a σ H1 _ r2 (ok.grow f na f1) (.inr rfl) (fun i hi => ?_) ow
    obtain ⟨_, _, _, z⟩ := r1.ioz _ hi
    exact no (.inl z)
theorem ss_retN {pos : Pos} (fr : p.fresh = false) : SS p W X G cf wf .retN (.Return none pos) := ss_of fun ρ => by
  simp only [exS]
  refine ps_imp ps_retN fun D σ H ⟨Φ, Wr, ok, r, f, k⟩ => ?_
  exact tKS.clean fr k .non σ H Wr r f .non
theorem ss_retO {i : Nat} {x : Str} {p1 pos : Pos} (hN : X.N[i]? = some x) (hv : Vis X.env.scope x) (hM : p.M i = true) (nio : ∀ a, (i, a) ∉ p.io) (hd : (x == ("__debug__" : Str)) = false) (hcd : (x == ("__classdict__" : Str)) = false) : SS p W X G cf wf (.retO i) (.Return (some (.Name x p1)) pos) := ss_of fun ρ => by
  simp only [exS]
  cases e : lk ρ i with
  | none => exact ps_no1
  | some d =>
    refine ps_imp (ps_ret (pe_var hN hv hd hcd)) fun D σ H ⟨Φ, Wr, ok, r, f, k⟩ => ?_
    obtain ⟨a, h1, h2, h3, h4⟩ := r.own i d hM e
    have nz : ¬ p.Z a := fun z => nio a (h4 z)
    refine ⟨_, h1, ?_⟩
    cases fr : p.fresh with
    | false =>
      exact tKS.clean fr k _ σ H Wr r f (h3.rep (fun _ z => .inl z) nz)
    | true =>
      refine tKS.own fr k a σ H Wr r f h2 (fun j hj => ?_) h3
      obtain ⟨_, _, _, z⟩ := r.ioz _ hj
      exact nz z
theorem ss_ite {c : Ex} {a b : Sms} {x : Expr} {xa xb : List Stmt} {pos : Pos} (hc : ST p W X G cf c x) (ha : SSs p W X G cf wf a xa) (hb : SSs p W X G cf wf b xb) : SS p W X G cf wf (.ite c a b) (.If x xa xb pos) := ss_of fun ρ => by
  have pt := hc ρ
  have ev : exS G cf wf (.ite c a b) ρ = (evT G cf c ρ).bindS fun k ρ1 => if k = true then exSs G cf wf a ρ1 else exSs G cf wf b ρ1 := by
    simp only [exS, evT]
    cases evE G cf c ρ with
    | no => rfl
    | ex k fs ρ1 => rfl
    | ok d ρ1 =>
      simp only [R.bind, R.bindS]
      cases fx c d ρ1 with
      | none => rfl
      | some d' =>
        cases e : truD d' with
        | none => simp only [e, ofO]
        | some k => cases k <;> simp [e, ofO]
  rw [ev]
  cases et : evT G cf c ρ with
  | no => exact ps_no1
  | ex k fs ρ1 =>
    rw [et] at pt
    exact ps_imp (ps_if pt ha hb) fun D σ H ⟨Φ, Wr, ok, r, f, k⟩ => ⟨Wr, r, ex_of ok f k⟩
  | ok k ρ1 =>
    rw [et] at pt
    refine ps_imp (ps_if pt ha hb) fun D σ H ⟨Φ, Wr, ok, r, f, q⟩ => ⟨Wr, r, fun H1 r1 f1 => ?_⟩
    simp only [R.bindS] at q
    cases k with
    | true =>
      rw [if_pos rfl] at q ⊢
      exact ⟨Φ, ρ1, Wr, ok, r1, ok.step f f1, q⟩
    | false =>
      rw [if_neg Bool.false_ne_true] at q ⊢
      exact ⟨Φ, ρ1, Wr, ok, r1, ok.step f f1, q⟩
end
end PD
end

section
set_option Elab.async false
set_option linter.all false
set_option maxRecDepth 100000
set_option maxHeartbeats 1000000
/-! PD11: targets, stores, loops -/
namespace PD
open PySem PySem.Spec PyProof.Rows L2
section
variable {p : Pr} {W : WX} {X : Cx} {G : List D} {cf : Nat → List D → C} {wf : Nat}
theorem sset_ne {σ : L2.St} {i j : Nat} {v : Option V} (h : i ≠ j) : (σ.set i v)[j]? = σ[j]? := List.getElem?_set_ne h
/-- a clean value is stored -/
theorem Rel.set {ρ : Env} {σ : L2.St} {H : Hp} {Wr : Addr → Prop} {i : Nat} {v : V} {d : D} (r : Rel p ρ σ H Wr) (m : p.M i = false) (rp : p.Rep H Wr v d) : Rel p (ρ.set i (some d)) (σ.set i (some v)) H Wr := by
  have ne : ∀ {j}, p.M j = true → i ≠ j := fun {j} h z => by rw [z, h] at m; cases m
  refine ⟨by rw [List.length_set, List.length_set]; exact r.len, r.dom, fun j dj mj e => ?_, fun j dj mj e => ?_, fun j k a mj mk hj hk sj sk => ?_, fun q hq => ?_⟩
  · by_cases z : i = j
    · subst z
      have li : i < ρ.length := by
        have := lk_lt e
        rwa [List.length_set] at this
      rw [lk_set_eq li] at e
      cases e
      exact ⟨v, by rw [List.getElem?_set_self (by rw [← r.len]; exact li)], rp⟩
    · rw [lk_set_ne z] at e
      obtain ⟨u, h1, h2⟩ := r.cl j dj mj e
      exact ⟨u, by rw [sset_ne z]; exact h1, h2⟩
  · rw [lk_set_ne (ne mj)] at e
    obtain ⟨a, h1, h2⟩ := r.own j dj mj e
    exact ⟨a, by rw [sset_ne (ne mj)]; exact h1, h2⟩
  · rw [lk_set_ne (ne mj)] at hj
    rw [lk_set_ne (ne mk)] at hk
    rw [sset_ne (ne mj)] at sj
    rw [sset_ne (ne mk)] at sk
    exact r.inj j k a mj mk hj hk sj sk
  · obtain ⟨h1, h2, h3, h4⟩ := r.ioz q hq
    exact ⟨h1, by rw [lk_set_ne (ne h1)]; exact h2, by rw [sset_ne (ne h1)]; exact h3, h4⟩
/-- a new cell becomes a slot's own -/
theorem Rel.take {ρ : Env} {σ : L2.St} {H : Hp} {Wr : Addr → Prop} {i : Nat} {a : Addr} {d : D} (r : Rel p ρ σ H Wr) (r2 : Rel p ρ σ H (fun b => Wr b ∨ b = a)) (m : p.M i = true) (nio : ∀ b, (i, b) ∉ p.io) (no : ¬ p.O Wr a) (ow : p.Own H (fun b => Wr b ∨ b = a) a d) :
    Rel p (ρ.set i (some d)) (σ.set i (some (.ref a))) H (fun b => Wr b ∨ b = a) := by
  refine ⟨by rw [List.length_set, List.length_set]; exact r.len, r2.dom, fun j dj mj e => ?_, fun j dj mj e => ?_, fun j k b mj mk hj hk sj sk => ?_, fun q hq => ?_⟩
  · have z : i ≠ j := fun z => by rw [z, mj] at m; cases m
    rw [lk_set_ne z] at e
    obtain ⟨u, h1, h2⟩ := r2.cl j dj mj e
    exact ⟨u, by rw [sset_ne z]; exact h1, h2⟩
  · by_cases z : i = j
    · subst z
      have li : i < ρ.length := by
        have := lk_lt e
        rwa [List.length_set] at this
      rw [lk_set_eq li] at e
      cases e
      exact ⟨a, by rw [List.getElem?_set_self (by rw [← r.len]; exact li)], .inr rfl, ow, fun h => (no (.inl h)).elim⟩
    · rw [lk_set_ne z] at e
      obtain ⟨b, h1, h2⟩ := r2.own j dj mj e
      exact ⟨b, by rw [sset_ne z]; exact h1, h2⟩
  · have old : ∀ j, i ≠ j → p.M j = true → (lk (ρ.set i (some d)) j).isSome = true → (σ.set i (some (.ref a)))[j]? = some (some (.ref a)) → False := fun j z mj hj sj => by
      rw [lk_set_ne z] at hj
      rw [sset_ne z] at sj
      obtain ⟨dj, e⟩ := Option.isSome_iff_exists.mp hj
      obtain ⟨c, h1, h2, _⟩ := r.own j dj mj e
      rw [sj] at h1
      cases h1
      exact no (.inr h2)
    have at_i : ∀ {b}, (σ.set i (some (.ref a)))[i]? = some (some (.ref b)) → b = a := fun {b} h => by
      by_cases li : i < σ.length
      · rw [List.getElem?_set_self li] at h
        cases h; rfl
      · rw [List.getElem?_eq_none (by rw [List.length_set]; omega)] at h
        cases h
    by_cases zj : i = j
    · by_cases zk : i = k
      · rw [← zj, ← zk]
      · subst zj
        have := at_i sj
        subst this
        exact (old k zk mk hk sk).elim
    · by_cases zk : i = k
      · subst zk
        have := at_i sk
        subst this
        exact (old j zj mj hj sj).elim
      · rw [lk_set_ne zj] at hj
        rw [lk_set_ne zk] at hk
        rw [sset_ne zj] at sj
        rw [sset_ne zk] at sk
        exact r.inj j k b mj mk hj hk sj sk
  · obtain ⟨h1, h2, h3, h4⟩ := r.ioz q hq
    have z : i ≠ q.1 := fun z => nio q.2 (by rw [z]; exact hq)
    exact ⟨h1, by rw [lk_set_ne z]; exact h2, by rw [sset_ne z]; exact h3, h4⟩

/-! ### targets -/
def gNms : List Nat → TGs
  | [] => gNil
  | i :: is => gCons (gName i) (gNms is)
/-- a tuple or a list that is taken apart -/
def gSeq (K : PySem.W.Frag) (n : Nat) (t : TGs) : TG := fun v σ H Q => gTup K n t v σ H Q ∨ gLst K n t v σ H Q
def gOf (K : PySem.W.Frag) : Tg → TG
  | .nm i => gName i
  | .tp is => gSeq K is.length (gNms is)
def tgSlots : Tg → List Nat
  | .nm i => [i]
  | .tp is => is
variable (p X) in
/-- the target's store, and its slots are clean -/
def SG (tg : Tg) (x : Expr) : Prop := PG X x (gOf X.K tg) ∧ ∀ i ∈ tgSlots tg, p.M i = false
theorem gNms_sem : ∀ (is : List Nat) (vs : List V) (ds : List D) (ρ : Env) (σ : L2.St) (H : Hp) (Wr : Addr → Prop) (Q : L2.St → Hp → Prop), (∀ i ∈ is, p.M i = false) → ds.length = is.length → Rel p ρ σ H Wr → RepA p.K p.cl H (p.O Wr) vs ds →
    (∀ σ', Rel p (setAll ρ is ds) σ' H Wr → σ'.length = σ.length → (∀ j, j ∉ is → σ'[j]? = σ[j]?) → Q σ' H) → gNms is vs σ H Q
  | [], vs, ds, ρ, σ, H, Wr, Q, _, e, r, rp, k => by
    cases rp with
    | nil => exact ⟨rfl, k σ r rfl fun _ _ => rfl⟩
    | cons _ _ => cases e
  | i :: is, vs, ds, ρ, σ, H, Wr, Q, m, e, r, rp, k => by
    cases rp with
    | nil => cases e
    | cons r1 r2 =>
      refine ⟨_, _, rfl, gNms_sem is _ _ (ρ.set i _) _ H Wr Q (fun j hj => m j (List.mem_cons_of_mem _ hj)) (Nat.succ.inj e) (r.set (m i (List.mem_cons_self ..)) r1) r2 fun σ' r' l' o' => k σ' r' (by rw [l', List.length_set]) fun j hj => ?_⟩
      rw [o' j fun z => hj (List.mem_cons_of_mem _ z)]
      exact sset_ne fun z => hj (by rw [z]; exact List.mem_cons_self ..)
theorem gOf_sem (hK : X.K = p.K) {tg : Tg} (m : ∀ i ∈ tgSlots tg, p.M i = false) {v : V} {d : D} {ρ ρ' : Env} {σ : L2.St} {H : Hp} {Wr : Addr → Prop} {Q : L2.St → Hp → Prop} (e : asgT tg d ρ = some ρ') (r : Rel p ρ σ H Wr) (rp : p.Rep H Wr v d)
    (k : ∀ σ', Rel p ρ' σ' H Wr → σ'.length = σ.length → (∀ j, j ∉ tgSlots tg → σ'[j]? = σ[j]?) → Q σ' H) : gOf X.K tg v σ H Q := by
  cases tg with
  | nm i =>
    cases e
    exact k _ (r.set (m i (List.mem_singleton.mpr rfl)) rp) (by rw [List.length_set]) fun j hj => sset_ne fun z => hj (List.mem_singleton.mpr z.symm)
  | tp is =>
    unfold asgT at e
    simp only at e
    split at e
    · split at e
      · rename_i ds hl
        cases e
        have hl := of_decide_eq_true hl
        obtain ⟨a, vs, rfl, ha, q⟩ := RepB.tup (.inl rp)
        rw [← hK] at ha
        exact .inl ⟨a, vs, rfl, ha, by rw [q.length]; exact hl, gNms_sem is vs ds ρ σ H Wr Q m hl r q k⟩
      · cases e
    · split at e
      · rename_i ds hl
        cases e
        have hl := of_decide_eq_true hl
        obtain ⟨a, vs, rfl, ha, q⟩ := RepB.lst (.inl rp)
        exact .inr ⟨a, vs, rfl, SqL.of ha, by rw [q.length]; exact hl, gNms_sem is vs ds ρ σ H Wr Q m hl r q k⟩
      · cases e
    · cases e
theorem sg_nm {i : Nat} {x : Str} {pos : Pos} (hN : X.N.Nodup) (hi : X.N[i]? = some x) (hx : Loc X.env.scope x) (hf : X.fn x = true ∨ X.env.scope.names.lookup x = some .local) (m : p.M i = false) : SG p X (.nm i) (.Name x pos) :=
  ⟨pg_name hN hi hx hf, fun j hj => by rw [List.mem_singleton.mp hj]; exact m⟩
variable (p X) in
def SGs (is : List Nat) (xs : List Expr) : Prop := PGs X xs (gNms is) ∧ ∀ i ∈ is, p.M i = false
theorem sgs_nil : SGs p X [] [] := ⟨pgs_nil, fun _ h => by cases h⟩
theorem sgs_cons {i : Nat} {is : List Nat} {x : Str} {xs : List Expr} {pos : Pos} (hN : X.N.Nodup) (hi : X.N[i]? = some x) (hx : Loc X.env.scope x) (hf : X.fn x = true ∨ X.env.scope.names.lookup x = some .local) (m : p.M i = false) (h : SGs p X is xs) : SGs p X (i :: is) (.Name x pos :: xs) :=
  ⟨pgs_cons (pg_name hN hi hx hf) h.1 (by rfl), fun j hj => by
    rcases List.mem_cons.mp hj with z | z
    · rw [z]; exact m
    · exact h.2 j z⟩
theorem pg_seq {n : Nat} {t : TGs} {xs : List Expr} {kt : Nat} {pos : Pos} (hc : X.calm = true) (h : PGs X xs t) (hn : (assignEach xs X.env).length = n) (hst : (assignEach xs X.env).findIdx? (·.1) = none) : PG X (.Tuple xs kt pos) (gSeq X.K n t) := by
  have h1 := pg_tup (k := kt) (pos := pos) hc h hn hst
  have h2 := pg_lst (k := kt) (pos := pos) hc h hn hst
  constructor
  intros
  rename_i q
  rcases q with q | q
  · exact h1.run _ _ _ _ _ _ _ (by assumption) (by assumption) q
  · exact h2.run _ _ _ _ _ _ _ (by assumption) (by assumption) q
theorem sg_tp {is : List Nat} {xs : List Expr} {kt : Nat} {pos : Pos} (hc : X.calm = true) (h : SGs p X is xs) (hn : (assignEach xs X.env).length = is.length) (hst : (assignEach xs X.env).findIdx? (·.1) = none) : SG p X (.tp is) (.Tuple xs kt pos) :=
  ⟨pg_seq hc h.1 hn hst, h.2⟩

/-! ### stores -/
theorem ss_asg (hK : X.K = p.K) {tg : Tg} {e : Ex} {tx x : Expr} {pos : Pos} (h : SE p W X G cf e x) (n : isBor e = none) (hg : SG p X tg tx) (hs : swapsWithSole [tx] x pos.line X.env = pure false) (hw : swappedStores [tx] x X.env = pure none) (h1 : (assignEach [tx] X.env).map (·.2) = [assign tx X.env]) :
    SS p W X G cf wf (.asg tg e) (.Assign [tx] x pos) := ss_of fun ρ => by
  have pa := h ρ
  have pg := hg.1
  simp only [exS]
  cases ea : evE G cf e ρ with
  | no => exact ps_no1
  | ex c fs ρ1 =>
    rw [ea] at pa
    exact ps_imp (ps_asg pa pg hs hw h1) fun D σ H ⟨Φ, Wr, ok, r, f, k⟩ => ⟨Wr, r, ex_of ok f k⟩
  | ok d ρ1 =>
    rw [ea] at pa
    simp only [R.bindS]
    cases ez : asgT tg d ρ1 with
    | none => exact ps_no1
    | some ρ2 =>
      refine ps_imp (ps_asg pa pg hs hw h1) fun D σ H ⟨Φ, Wr, ok, r, f, k⟩ => ⟨Wr, r, fun v H1 r1 f1 w1 => ?_⟩
      exact gOf_sem hK hg.2 ez r1 (w1.rep n) fun σ' r' _ _ => k σ' H1 Wr r' (ok.step f f1)
theorem ss_own {i : Nat} {e : Ex} {x : Expr} {nm : Str} {px pos : Pos} (h : SF p W X G cf e x) (hN : X.N.Nodup) (hi : X.N[i]? = some nm) (hx : Loc X.env.scope nm) (hf : X.fn nm = true ∨ X.env.scope.names.lookup nm = some .local) (m : p.M i = true) (nio : ∀ b, (i, b) ∉ p.io)
    (hs : swapsWithSole [.Name nm px] x pos.line X.env = pure false) (hw : swappedStores [.Name nm px] x X.env = pure none) : SS p W X G cf wf (.own i e) (.Assign [.Name nm px] x pos) := ss_of fun ρ => by
  have pa := h ρ
  have pg : PG X (.Name nm px) (gName i) := pg_name hN hi hx hf
  simp only [exS]
  cases ea : evE G cf e ρ with
  | no => exact ps_no1
  | ex c fs ρ1 =>
    rw [ea] at pa
    exact ps_imp (ps_asg pa pg hs hw rfl) fun D σ H ⟨Φ, Wr, ok, r, f, k⟩ => ⟨Wr, r, ex_of ok f k⟩
  | ok d ρ1 =>
    rw [ea] at pa
    refine ps_imp (ps_asg pa pg hs hw rfl) fun D σ H ⟨Φ, Wr, ok, r, f, k⟩ => ⟨Wr, r, fun a H1 na r1 r2 f1 no ow => ?_⟩
    exact k _ H1 _ (r1.take r2 m nio no ow) (ok.grow f na f1)
theorem ss_par2 {i j : Nat} {a b : Ex} {xa xb : Expr} {x y : Str} {px py pt pos pt2 : Pos} {kt k2 : Nat} (hc : X.calm = true) (hN : X.N.Nodup) (hi : X.N[i]? = some x) (hj : X.N[j]? = some y) (hij : i ≠ j) (hx : X.env.scope.names.lookup x = some .local) (hy : X.env.scope.names.lookup y = some .local)
    (mi : p.M i = false) (mj : p.M j = false) (h : SA p W X G cf (.cons a (.cons b .nil)) [xa, xb]) (na : isBor a = none) (nb : isBor b = none) (hw : swappedStores [.Tuple [.Name x px, .Name y py] kt pt] (.Tuple [xa, xb] k2 pt2) X.env = pure (some [x, y]))
    (hs : swapsWithSole [.Tuple [.Name x px, .Name y py] kt pt] (.Tuple [xa, xb] k2 pt2) pos.line X.env = pure false) : SS p W X G cf wf (.par [i, j] (.cons a (.cons b .nil))) (.Assign [.Tuple [.Name x px, .Name y py] kt pt] (.Tuple [xa, xb] k2 pt2) pos) := ss_of fun ρ => by
  have pa := h ρ
  simp only [exS]
  cases ea : evs G cf (.cons a (.cons b .nil)) ρ with
  | no => exact ps_no1
  | ex c fs ρ1 =>
    rw [ea] at pa
    exact ps_imp (ps_par hc hN hi hj hij hx hy pa hw hs) fun D σ H ⟨Φ, Wr, ok, r, f, k⟩ => ⟨Wr, r, ex_of ok f k⟩
  | ok ds ρ1 =>
    rw [ea] at pa
    simp only [R.bindS]
    by_cases hl : decide (ds.length = [i, j].length) = true
    · rw [if_pos hl]
      refine ps_imp (ps_par hc hN hi hj hij hx hy pa hw hs) fun D σ H ⟨Φ, Wr, ok, r, f, k⟩ => ⟨Wr, r, fun vs H1 r1 f1 w1 => ?_⟩
      have rp := w1.rep (by simp [allClean, na, nb])
      match vs, ds, rp with
      | [v, w], [d, e], .cons q1 (.cons q2 .nil) => exact ⟨v, w, rfl, k _ H1 Wr ((r1.set mi q1).set mj q2) (ok.step f f1)⟩
      | [], [], .nil => exact w1.elim
      | [_], [_], .cons _ .nil => exact w1.2.elim
      | _ :: _ :: _ :: _, _ :: _ :: _ :: _, .cons _ (.cons _ (.cons _ _)) => exact w1.2.2.elim
    · rw [if_neg hl]
      exact ps_no1
theorem ss_setix (hK : X.K = p.K) {i : Nat} {k e : Ex} {xk xe : Expr} {nm : Str} {po p2 pos : Pos} (he : SE p W X G cf e xe) (ne : isBor e = none) (hk : SE p W X G cf k xk) (nk : isBor k = none) (hN : X.N[i]? = some nm) (hv : Vis X.env.scope nm) (hM : p.M i = true)
    (hd : (nm == ("__debug__" : Str)) = false) (hcd : (nm == ("__classdict__" : Str)) = false) (ha : ∀ t (pg : PE X (.Name nm po) (tVar i)) (pk : PE X xk t), PG X (.Subscript (.Name nm po) xk p2) (gSub (tVar i) t rSetL))
    (hs : swapsWithSole [.Subscript (.Name nm po) xk p2] xe pos.line X.env = pure false) (hw : swappedStores [.Subscript (.Name nm po) xk p2] xe X.env = pure none) : SS p W X G cf wf (.setix i k e) (.Assign [.Subscript (.Name nm po) xk p2] xe pos) := ss_of fun ρ => by
  have pa := he ρ
  have pn : PE X (.Name nm po) (tVar i) := pe_var hN hv hd hcd
  simp only [exS]
  cases ea : evE G cf e ρ with
  | no => exact ps_no1
  | ex c fs ρ1 =>
    rw [ea] at pa
    exact ps_imp (ps_asg pa (ha _ pn (hk ρ1)) hs hw rfl) fun D σ H ⟨Φ, Wr, ok, r, f, q⟩ => ⟨Wr, r, ex_of ok f q⟩
  | ok v ρ1 =>
    rw [ea] at pa
    have pk := hk ρ1
    simp only [R.bindS]
    cases el : lk ρ1 i with
    | none => exact ps_no1
    | some d0 =>
    have there : ∀ {σ H Wr}, Rel p ρ1 σ H Wr → ∃ a, σ[i]? = some (some (.ref a)) ∧ Wr a := fun r => by
      obtain ⟨a, h1, h2, _⟩ := r.own i d0 hM el
      exact ⟨a, h1, h2⟩
    simp only [Option.isNone, Bool.false_eq_true, if_false]
    cases ek : evE G cf k ρ1 with
    | no => exact ps_no1
    | ex c fs ρ2 =>
      rw [ek] at pk
      refine ps_imp (ps_asg pa (ha _ pn pk) hs hw rfl) fun D σ H ⟨Φ, Wr, ok, r, f, q⟩ => ⟨Wr, r, fun u H1 r1 f1 w1 => ?_⟩
      obtain ⟨a, h1, _⟩ := there r1
      exact ⟨_, h1, Wr, r1, ex_of ok (ok.step f f1) q⟩
    | ok kd ρ2 =>
      rw [ek] at pk
      simp only
      cases e2 : lk ρ2 i with
      | none => exact ps_no1
      | some d =>
        simp only
        cases e3 : setD d kd v with
        | none => exact ps_no1
        | some d' =>
          simp only
          refine ps_imp (ps_asg pa (ha _ pn pk) hs hw rfl) fun D σ H ⟨Φ, Wr, ok, r, f, q⟩ => ⟨Wr, r, fun u H1 r1 f1 w1 => ?_⟩
          obtain ⟨a, h1, h2⟩ := there r1
          refine ⟨_, h1, Wr, r1, fun kv H2 r2 f2 w2 => ?_⟩
          obtain ⟨a2, h3, h4, h5, _⟩ := r2.own i d hM e2
          rw [h1] at h3
          cases h3
          unfold setD at e3
          split at e3
          · rename_i xs z
            cases ez : ixN xs.length z with
            | none => rw [ez] at e3; cases e3
            | some j =>
              rw [ez] at e3
              cases e3
              cases h5 with
              | lst eo rp =>
                have w := w2.rep nk
                cases w
                refine ⟨a, _, z, j, rfl, rfl, eo, by rw [rp.length]; exact ez, ?_⟩
                have rv : p.Rep H2 Wr u v := Rep.fr (w1.rep ne) f2
                exact q σ _ Wr (r2.put hM e2 h1 (own_lst (p := p) (d := .non) (vs := []) (ds := []) h2 (rp.set rv j))) (ok.step (ok.step (ok.step f f1) f2) (upd_fr h2))
          · cases e3

/-! ### loops -/
/-- an iterator that gives the items ds, whatever happens to own cells -/
def JOk (p : Pr) (J : L2.It) (ds : List D) (H1 : Hp) (W1 : Addr → Prop) : Prop :=
  ∃ (n : Nat) (Gd : Hp → Prop) (Y : Nat → Hp → V → Hp → Prop), n = ds.length ∧ Walk J n Gd Y ∧ ∀ H2 W2, FW p H1 W1 H2 W2 → (∀ a, p.O W2 a → (H2 a).isSome = true) → Gd H2 ∧ ∀ i x H3, Y i H2 x H3 → ∃ d, ds[i]? = some d ∧ Same H2 H3 ∧ p.Rep H3 W2 x d
variable (p W) in
def tKI (Wr : Addr → Prop) (σ : L2.St) (H : Hp) (r : R (List D)) (R' : L2.It → Hp → Prop) : Prop :=
  match r with
  | .ok ds ρ1 => ∀ J H1, Rel p ρ1 σ H1 Wr → Fr Wr H H1 → JOk p J ds H1 Wr → R' J H1
  | .ex c fs ρ1 => ∀ dx H1, Rel p ρ1 σ H1 Wr → Fr Wr H H1 → XRep p H1 Wr dx c fs → W (.ref (p.xc c)) dx σ H1
  | .no => False
variable (p W) in
def tI (ρ : Env) (r : R (List D)) : TI := fun σ H R' => ∃ Wr, Rel p ρ σ H Wr ∧ tKI p W Wr σ H r R'
variable (p W X G cf) in
def SI (it : PD.It) (tx x : Expr) : Prop := ∀ ρ, PI X tx x (tI p W ρ (evI G cf it ρ))
theorem forL_cons {fb : Env → SR} {tg : Tg} {d : D} {ds : List D} {ρ : Env} : forL fb tg (d :: ds) ρ = match asgT tg d ρ with
    | none => .no
    | some ρ1 => match fb ρ1 with
      | .nxt ρ2 => forL fb tg ds ρ2
      | .cnt ρ2 => forL fb tg ds ρ2
      | .brk ρ2 => .nxt ρ2
      | r => r := rfl
theorem tKS.weak {Φ Ψ : Fm} {D D' : Ends} {d : PD.D} {ρ : Env} (i : ∀ H Wr, Ψ H Wr → Φ H Wr) (k : tKS p W Φ D (.ret d ρ)) (e : D'.rt = D.rt) : tKS p W Ψ D' (.ret d ρ) := by
  have k : (if p.fresh = true then ∀ a σ H Wr, Rel p ρ σ H Wr → Φ H Wr → Wr a → (∀ i, (i, a) ∉ p.io) → p.Own H Wr a d → D.rt (.ref a) H else ∀ v σ H Wr, Rel p ρ σ H Wr → Φ H Wr → PD.Rep p.K p.cl H p.Z v d → D.rt v H) := k
  show (if p.fresh = true then ∀ a σ H Wr, Rel p ρ σ H Wr → Ψ H Wr → Wr a → (∀ i, (i, a) ∉ p.io) → p.Own H Wr a d → D'.rt (.ref a) H else ∀ v σ H Wr, Rel p ρ σ H Wr → Ψ H Wr → PD.Rep p.K p.cl H p.Z v d → D'.rt v H)
  rw [e]
  cases fr : p.fresh with
  | true =>
    rw [fr, if_pos rfl] at k
    rw [if_pos rfl]
    exact fun a σ H Wr r f => k a σ H Wr r (i _ _ f)
  | false =>
    rw [fr, if_neg Bool.false_ne_true] at k
    rw [if_neg Bool.false_ne_true]
    exact fun v σ H Wr r f => k v σ H Wr r (i _ _ f)
theorem ss_for (hK : X.K = p.K) {tg : Tg} {it : PD.It} {b : Sms} {tx x : Expr} {xb : List Stmt} {pos : Pos} (hp : PassesOwn (model X.prog X.w) X.A X.env X.xe) (hc : X.calm = true) (hi : SI p W X G cf it tx x) (hg : SG p X tg tx) (hb : SSs p W X G cf wf b xb)
    (hs : ∀ v, foldedSetIterable x X.env v = pure v) : SS p W X G cf wf (.fr tg it b) (.For tx x xb [] pos) := ss_of fun ρ => by
  have pi := hi ρ
  have pg := hg.1
  simp only [exS]
  cases ei : evI G cf it ρ with
  | no => exact ps_no1
  | ex c fs ρ1 =>
    rw [ei] at pi
    exact ps_imp (ps_for hp hc pi pg hb hs) fun D σ H ⟨Φ, Wr, ok, r, f, k⟩ => ⟨Wr, r, ex_of ok f k⟩
  | ok ds ρ1 =>
    rw [ei] at pi
    simp only [R.bindS]
    refine ps_imp (ps_for hp hc pi pg hb hs) fun D σ H ⟨Φ, Wr, ok, r, f, k⟩ => ⟨Wr, r, fun J H1 r1 f1 jk => ?_⟩
    obtain ⟨n, Gd, Y, hn, wk, jy⟩ := jk
    have okL := ok.and (FW.ok (p := p) H1 Wr)
    have start : tKS p W Φ D (forL (fun r => exSs G cf wf b r) tg (ds.drop 0) ρ1) := k
    refine for_it wk (fun i σ' H' => ∃ ρ' Wr', Rel p ρ' σ' H' Wr' ∧ (Φ H' Wr' ∧ FW p H1 Wr H' Wr') ∧ tKS p W Φ D (forL (fun r => exSs G cf wf b r) tg (ds.drop i) ρ')) ⟨ρ1, Wr, r1, ⟨ok.step f f1, FW.refl⟩, start⟩ (fun i σ' H' hi ⟨ρ', Wr', r', f', _⟩ => (jy H' Wr' f'.2 r'.dom).1) ?_ ?_
    · rintro i v σ' H' H3 hi ⟨ρ', Wr', r', f', k'⟩ y
      obtain ⟨d, ed, sm, rp⟩ := (jy H' Wr' f'.2 r'.dom).2 i v H3 y
      have hlt : i < ds.length := (List.getElem?_eq_some_iff.mp ed).1
      have e : ds.drop i = d :: ds.drop (i + 1) := by
        rw [List.drop_eq_getElem_cons hlt]
        congr 1
        exact (List.getElem?_eq_some_iff.mp ed).2
      rw [e, forL_cons] at k'
      cases ea : asgT tg d ρ' with
      | none => rw [ea] at k'; exact k'.elim
      | some ρ2 =>
        rw [ea] at k'
        simp only at k'
        have f3 := okL.step f' (Fr.same sm)
        refine gOf_sem hK hg.2 ea (r'.same sm) rp fun σ2 r2 _ _ => ?_
        refine ⟨fun H W2 => Φ H W2 ∧ FW p H1 Wr H W2, ρ2, Wr', okL, r2, f3, ?_⟩
        cases eb : exSs G cf wf b ρ2 with
        | nxt ρ3 => rw [eb] at k'; exact fun σ4 H4 W4 r4 f4 => ⟨ρ3, W4, r4, f4, k'⟩
        | cnt ρ3 => rw [eb] at k'; exact fun σ4 H4 W4 r4 f4 => ⟨ρ3, W4, r4, f4, k'⟩
        | brk ρ3 => rw [eb] at k'; exact fun σ4 H4 W4 r4 f4 => k' σ4 H4 W4 r4 f4.1
        | ret d3 ρ3 => rw [eb] at k'; exact tKS.weak (fun _ _ z => z.1) k' rfl
        | ex c3 fs3 ρ3 => rw [eb] at k'; exact fun dx σ4 H4 W4 r4 f4 x4 => k' dx σ4 H4 W4 r4 f4.1 x4
        | no => rw [eb] at k'; exact k'
    · rintro σ' H' ⟨ρ', Wr', r', f', k'⟩
      rw [hn, List.drop_length] at k'
      exact k' σ' H' Wr' r' f'.1
theorem whlL_succ {fc : Env → R D} {fb : Env → SR} {n : Nat} {ρ : Env} : whlL fc fb (n + 1) ρ = (fc ρ).bindS fun c ρ1 => match truD c with
    | some true => match fb ρ1 with
      | .nxt ρ2 => whlL fc fb n ρ2
      | .cnt ρ2 => whlL fc fb n ρ2
      | .brk ρ2 => .nxt ρ2
      | r => r
    | some false => .nxt ρ1
    | none => .no := rfl
variable (p W) in
/-- a test at some state -/
def tTx (f : Env → R Bool) : TT := fun σ H Q => ∃ ρ, tT p W ρ (f ρ) σ H Q
theorem pt_ex {x : Expr} {f : Env → R Bool} (h : ∀ ρ, PT X x (tT p W ρ (f ρ))) : PT X x (tTx p W f) := ⟨fun pins s σ H Q I q => by
  obtain ⟨ρ, q⟩ := q
  exact (h ρ).run pins s σ H Q I q⟩
theorem ss_whl {c : Ex} {b : Sms} {x : Expr} {xb : List Stmt} {pos : Pos} (hp : PassesOwn (model X.prog X.w) X.A X.env X.xe) (hc : ST p W X G cf c x) (nc : isBor c = none) (hb : SSs p W X G cf wf b xb) : SS p W X G cf wf (.whl c b) (.While x xb [] pos) := by
  refine ps_imp (ps_while hp (pt_ex hc) hb) fun D σ H ⟨Φ, ρ, Wr, ok, r, f, k⟩ => ?_
  simp only [exS] at k
  refine ⟨fun m σ' H' => ∃ ρ' Wr', Rel p ρ' σ' H' Wr' ∧ Φ H' Wr' ∧ tKS p W Φ D (whlL (fun r => evE G cf c r) (fun r => exSs G cf wf b r) m ρ'), ⟨wf, ρ, Wr, r, f, k⟩, ?_⟩
  rintro m σ1 H1 ⟨ρ1, W1, r1, f1, k1⟩
  cases m with
  | zero => exact k1.elim
  | succ m =>
    rw [whlL_succ] at k1
    refine ⟨ρ1, W1, r1, ?_⟩
    have ev : evT G cf c ρ1 = (evE G cf c ρ1).bind fun d ρ2 => ofO (truD d) ρ2 := by
      unfold evT
      refine congrArg _ (funext fun d => funext fun ρ2 => ?_)
      rw [fx_clean nc]
    rw [ev]
    cases ec : evE G cf c ρ1 with
    | no => rw [ec] at k1; exact k1.elim
    | ex cc fs ρ2 => rw [ec] at k1; exact ex_of ok f1 k1
    | ok d ρ2 =>
      rw [ec] at k1
      simp only [R.bind, R.bindS] at k1 ⊢
      cases et : truD d with
      | none => rw [et] at k1; exact k1.elim
      | some t =>
        rw [et] at k1
        intro H2 r2 fr2
        have f2 := ok.step f1 fr2
        cases t with
        | false =>
          rw [if_neg Bool.false_ne_true]
          exact k1 σ1 H2 W1 r2 f2
        | true =>
          rw [if_pos rfl]
          simp only at k1
          refine ⟨fun σ' H' => ∃ ρ' Wr', Rel p ρ' σ' H' Wr' ∧ Φ H' Wr' ∧ tKS p W Φ D (whlL (fun r => evE G cf c r) (fun r => exSs G cf wf b r) m ρ'), fun σ' H' q => ⟨m, Nat.lt_succ_self m, q⟩, Φ, ρ2, W1, ok, r2, f2, ?_⟩
          cases eb : exSs G cf wf b ρ2 with
          | nxt ρ3 => rw [eb] at k1; exact fun σ4 H4 W4 r4 f4 => ⟨ρ3, W4, r4, f4, k1⟩
          | cnt ρ3 => rw [eb] at k1; exact fun σ4 H4 W4 r4 f4 => ⟨ρ3, W4, r4, f4, k1⟩
          | brk ρ3 => rw [eb] at k1; exact fun σ4 H4 W4 r4 f4 => k1 σ4 H4 W4 r4 f4
          | ret d3 ρ3 => rw [eb] at k1; exact tKS.weak (fun _ _ z => z) k1 rfl
          | ex c3 fs3 ρ3 => rw [eb] at k1; exact k1
          | no => rw [eb] at k1; exact k1
end
end PD
end

section
set_option Elab.async false
set_option linter.all false
set_option maxRecDepth 100000
set_option maxHeartbeats 1000000
/-! PD12: comprehensions -/
namespace PD
open PySem PySem.Spec PyProof.Rows L2
theorem wipeE_len (ρ : Env) : ∀ vs : List Nat, (wipeE ρ vs).length = ρ.length
  | [] => rfl
  | v :: vs => by unfold wipeE; rw [List.length_set, wipeE_len ρ vs]
theorem backE_len (ρ0 ρ : Env) : ∀ vs : List Nat, (backE ρ0 ρ vs).length = ρ.length
  | [] => rfl
  | v :: vs => by unfold backE; rw [List.length_set, backE_len ρ0 ρ vs]
theorem lk_wipe_out {ρ : Env} {j : Nat} : ∀ {vs : List Nat}, j ∉ vs → lk (wipeE ρ vs) j = lk ρ j
  | [], _ => rfl
  | v :: vs, h => by
    unfold wipeE
    rw [lk_set_ne fun z => h (by rw [z]; exact List.mem_cons_self ..)]
    exact lk_wipe_out fun z => h (List.mem_cons_of_mem _ z)
theorem lk_wipe_in {ρ : Env} {j : Nat} : ∀ {vs : List Nat}, j ∈ vs → lk (wipeE ρ vs) j = none
  | [], h => by cases h
  | v :: vs, h => by
    unfold wipeE
    by_cases z : v = j
    · subst z
      by_cases l : v < (wipeE ρ vs).length
      · exact lk_set_eq l
      · unfold lk
        rw [List.getElem?_eq_none (by rw [List.length_set]; omega)]; rfl
    · rw [lk_set_ne z]
      rcases List.mem_cons.mp h with q | q
      · exact (z q.symm).elim
      · exact lk_wipe_in q
theorem lk_back_out {ρ0 ρ : Env} {j : Nat} : ∀ {vs : List Nat}, j ∉ vs → lk (backE ρ0 ρ vs) j = lk ρ j
  | [], _ => rfl
  | v :: vs, h => by
    unfold backE
    rw [lk_set_ne fun z => h (by rw [z]; exact List.mem_cons_self ..)]
    exact lk_back_out fun z => h (List.mem_cons_of_mem _ z)
theorem lk_back_in {ρ0 ρ : Env} {j : Nat} (hl : ρ0.length = ρ.length) : ∀ {vs : List Nat}, j ∈ vs → lk (backE ρ0 ρ vs) j = lk ρ0 j
  | [], h => by cases h
  | v :: vs, h => by
    unfold backE
    by_cases z : v = j
    · subst z
      by_cases l : v < (backE ρ0 ρ vs).length
      · exact lk_set_eq l
      · rw [backE_len] at l
        unfold lk
        rw [List.getElem?_eq_none (by rw [List.length_set, backE_len]; omega), List.getElem?_eq_none (by omega)]
    · rw [lk_set_ne z]
      rcases List.mem_cons.mp h with q | q
      · exact (z q.symm).elim
      · exact lk_back_in hl q
theorem wipe_out {σ : L2.St} {j : Nat} : ∀ {vs : List Nat}, j ∉ vs → (wipe σ vs)[j]? = σ[j]?
  | [], _ => rfl
  | v :: vs, h => by
    unfold wipe
    rw [List.getElem?_set_ne fun z => h (by rw [z]; exact List.mem_cons_self ..)]
    exact wipe_out fun z => h (List.mem_cons_of_mem _ z)
theorem wipe_in {σ : L2.St} {j : Nat} : ∀ {vs : List Nat}, j ∈ vs → (wipe σ vs)[j]? = if j < σ.length then some none else none
  | [], h => by cases h
  | v :: vs, h => by
    unfold wipe
    by_cases z : v = j
    · subst z
      by_cases l : v < σ.length
      · rw [List.getElem?_set_self (by rw [wipe_length]; exact l), if_pos l]
      · rw [List.getElem?_eq_none (by rw [List.length_set, wipe_length]; omega), if_neg l]
    · rw [List.getElem?_set_ne z]
      rcases List.mem_cons.mp h with q | q
      · exact (z q.symm).elim
      · exact wipe_in q
theorem wipe_eq {σ σ' : L2.St} {vs : List Nat} (hl : σ'.length = σ.length) (h : ∀ j, j ∉ vs → σ'[j]? = σ[j]?) : wipe σ' vs = wipe σ vs := by
  refine List.ext_getElem? fun j => ?_
  by_cases z : j ∈ vs
  · rw [wipe_in z, wipe_in z, hl]
  · rw [wipe_out z, wipe_out z, h j z]
def Pr.z (p : Pr) (D : Addr) : Pr := { p with Z := fun a => p.Z a ∨ a = D }
section
variable {p : Pr} {W : WX} {X : Cx} {G : List D} {cf : Nat → List D → C}
theorem z_o {D : Addr} {Wr : Addr → Prop} {a : Addr} : (p.z D).O Wr a ↔ p.O Wr a ∨ a = D := by
  constructor
  · rintro ((h | h) | h)
    · exact .inl (.inl h)
    · exact .inr h
    · exact .inl (.inr h)
  · rintro ((h | h) | h)
    · exact .inl (.inl h)
    · exact .inr h
    · exact .inl (.inr h)
theorem Rel.wipe {ρ : Env} {σ : L2.St} {H : Hp} {Wr : Addr → Prop} {vs : List Nat} (r : Rel p ρ σ H Wr) (m : ∀ i ∈ vs, p.M i = false) : Rel p (wipeE ρ vs) (L2.wipe σ vs) H Wr := by
  have nm : ∀ {j}, p.M j = true → j ∉ vs := fun {j} h z => by rw [m j z] at h; cases h
  refine ⟨by rw [wipeE_len, wipe_length]; exact r.len, r.dom, fun j d mj e => ?_, fun j d mj e => ?_, fun i j a mi mj hi hj si sj => ?_, fun q hq => ?_⟩
  · by_cases z : j ∈ vs
    · rw [lk_wipe_in z] at e; cases e
    · rw [lk_wipe_out z] at e
      obtain ⟨v, h1, h2⟩ := r.cl j d mj e
      exact ⟨v, by rw [wipe_out z]; exact h1, h2⟩
  · rw [lk_wipe_out (nm mj)] at e
    obtain ⟨a, h1, h2⟩ := r.own j d mj e
    exact ⟨a, by rw [wipe_out (nm mj)]; exact h1, h2⟩
  · rw [lk_wipe_out (nm mi)] at hi
    rw [lk_wipe_out (nm mj)] at hj
    rw [wipe_out (nm mi)] at si
    rw [wipe_out (nm mj)] at sj
    exact r.inj i j a mi mj hi hj si sj
  · obtain ⟨h1, h2, h3, h4⟩ := r.ioz q hq
    exact ⟨h1, by rw [lk_wipe_out (nm h1)]; exact h2, by rw [wipe_out (nm h1)]; exact h3, h4⟩
/-- the new list's cell is no longer anyone's -/
theorem Rel.toZ {ρ : Env} {σ : L2.St} {H : Hp} {Wr : Addr → Prop} {D : Addr} {o : HO} (r : Rel p ρ σ H Wr) (hD : H D = none) : Rel (p.z D) ρ σ (upd H D o) Wr := by
  have s := same_upd (o := o) hD
  have fr : ∀ a u, ¬ p.O Wr a → H a = some u → upd H D o a = some u := fun a u _ e => s a u e
  have ho : ∀ a, (H a).isSome = true → (p.z D).O Wr a → p.O Wr a := fun a e z => by
    rcases z_o.mp z with z | z
    · exact z
    · rw [z, hD] at e; cases e
  refine ⟨r.len, fun a h => ?_, fun j d mj e => ?_, fun j d mj e => ?_, r.inj, fun q hq => ?_⟩
  · rcases z_o.mp h with h | h
    · exact Same.some s (r.dom a h)
    · rw [h, upd_same]; rfl
  · obtain ⟨v, h1, h2⟩ := r.cl j d mj e
    exact ⟨v, h1, h2.frame fr ho⟩
  · obtain ⟨a, h1, h2, h3, h4⟩ := r.own j d mj e
    obtain ⟨u, eu⟩ := Option.isSome_iff_exists.mp h3.there
    refine ⟨a, h1, h2, h3.frame ((s a u eu).trans eu.symm) fr ho, fun z => ?_⟩
    rcases z with z | z
    · exact h4 z
    · rw [z, hD] at eu; cases eu
  · obtain ⟨h1, h2, h3, h4⟩ := r.ioz q hq
    exact ⟨h1, h2, h3, .inl h4⟩
/-- the new list grows -/
theorem Rel.updZ {ρ : Env} {σ : L2.St} {H : Hp} {Wr : Addr → Prop} {D : Addr} {o : HO} (r : Rel (p.z D) ρ σ H Wr) (nW : ¬ Wr D) : Rel (p.z D) ρ σ (upd H D o) Wr := by
  have zD : (p.z D).Z D := .inr rfl
  have fr : ∀ a u, ¬ (p.z D).O Wr a → H a = some u → upd H D o a = some u := fun a u n e => by
    rw [upd_ne fun z => n (.inl (by rw [z]; exact zD))]
    exact e
  refine ⟨r.len, fun a h => ?_, fun j d mj e => ?_, fun j d mj e => ?_, r.inj, r.ioz⟩
  · by_cases z : a = D
    · rw [z, upd_same]; rfl
    · rw [upd_ne z]; exact r.dom a h
  · obtain ⟨v, h1, h2⟩ := r.cl j d mj e
    exact ⟨v, h1, h2.frame fr fun _ _ z => z⟩
  · obtain ⟨a, h1, h2, h3, h4⟩ := r.own j d mj e
    have ne : a ≠ D := fun z => nW (by rw [← z]; exact h2)
    exact ⟨a, h1, h2, h3.frame (upd_ne ne) fr (fun _ _ z => z), h4⟩
/-- behind the block: the own names as they were -/
theorem Rel.back {ρ1 ρe : Env} {σ : L2.St} {H1 H : Hp} {Wr W' : Addr → Prop} {D : Addr} {vs : List Nat} (r1 : Rel p ρ1 σ H1 Wr) (r : Rel (p.z D) (wipeE ρe vs) (L2.wipe σ vs) H Wr) (m : ∀ i ∈ vs, p.M i = false) (hD : H1 D = none)
    (fr : ∀ a o, ¬ p.O Wr a → H1 a = some o → H a = some o) (w1 : ∀ a, Wr a → W' a) (w2 : ∀ a, p.O W' a → (p.z D).O Wr a) : Rel p (backE ρ1 ρe vs) σ H W' := by
  have nm : ∀ {j}, p.M j = true → j ∉ vs := fun {j} h z => by rw [m j z] at h; cases h
  have l1 : ρ1.length = ρe.length := by
    have h2 := r.len
    rw [wipeE_len, wipe_length] at h2
    rw [r1.len, h2]
  refine ⟨by rw [backE_len, ← l1]; exact r1.len, fun a h => r.dom a (w2 a h), fun j d mj e => ?_, fun j d mj e => ?_, fun i j a mi mj hi hj si sj => ?_, fun q hq => ?_⟩
  · by_cases z : j ∈ vs
    · rw [lk_back_in l1 z] at e
      obtain ⟨v, h1, h2⟩ := r1.cl j d mj e
      refine ⟨v, h1, h2.frame fr fun a ea oa => ?_⟩
      rcases z_o.mp (w2 a oa) with q | q
      · exact q
      · rw [q, hD] at ea; cases ea
    · rw [lk_back_out z] at e
      obtain ⟨v, h1, h2⟩ := r.cl j d mj (by rw [lk_wipe_out z]; exact e)
      rw [wipe_out z] at h1
      exact ⟨v, h1, h2.shrink w2⟩
  · rw [lk_back_out (nm mj)] at e
    obtain ⟨a, h1, h2, h3, h4⟩ := r.own j d mj (by rw [lk_wipe_out (nm mj)]; exact e)
    rw [wipe_out (nm mj)] at h1
    exact ⟨a, h1, w1 a h2, h3.frame rfl (fun _ _ _ e => e) fun a _ => w2 a, fun z => h4 (.inl z)⟩
  · rw [lk_back_out (nm mi)] at hi
    rw [lk_back_out (nm mj)] at hj
    exact r.inj i j a mi mj (by rw [lk_wipe_out (nm mi)]; exact hi) (by rw [lk_wipe_out (nm mj)]; exact hj) (by rw [wipe_out (nm mi)]; exact si) (by rw [wipe_out (nm mj)]; exact sj)
  · obtain ⟨h1, h2, h3, h4⟩ := r1.ioz q hq
    obtain ⟨_, h5, _, _⟩ := r.ioz q hq
    exact ⟨h1, by rw [lk_back_out (nm h1)]; rwa [lk_wipe_out (nm h1)] at h5, h3, h4⟩
abbrev Wno : WX := fun _ _ _ _ => False
variable (p G cf) in
def tEb (e : Ex) : TE := fun σ H Q => ∃ D ρ, tE (p.z D) Wno e ρ (evE G cf e ρ) σ H Q
variable (p G cf) in
def tTb (c : Ex) : TT := fun σ H Q => ∃ D ρ, tT (p.z D) Wno ρ (evT G cf c ρ) σ H Q
theorem pe_b {Y : Cx} {e : Ex} {x : Expr} (h : ∀ D, SE (p.z D) Wno Y G cf e x) : PE Y x (tEb p G cf e) := ⟨fun pins s σ H Q I q => by
  obtain ⟨D, ρ, q⟩ := q
  exact (h D ρ).run pins s σ H Q I q⟩
theorem pts_b0 {Y : Cx} : PTs Y [] (tTb p G cf (.bl true)) := ⟨fun pins s σ H Q I q => by
  obtain ⟨D, ρ, Wr, r, k⟩ := q
  have k : ∀ H1, Rel (p.z D) ρ σ H1 Wr → Fr Wr H H1 → Q true H1 := by
    have e : evT G cf (.bl true) ρ = .ok true ρ := by simp [evT, evE, R.bind, fx, truD, ofO]
    rw [e] at k
    exact k
  exact pts_nil.run pins s σ H Q I (k H r Fr.refl)⟩
theorem pts_b1 {Y : Cx} {c : Ex} {x : Expr} (h : ∀ D, ST (p.z D) Wno Y G cf c x) : PTs Y [x] (tTb p G cf c) := pts_one ⟨fun pins s σ H Q I q => by
  obtain ⟨D, ρ, q⟩ := q
  exact (h D ρ).run pins s σ H Q I q⟩
theorem compL_cons {fc fe : Env → R D} {tg : Tg} {own : List Nat} {d : D} {ds : List D} {ρ : Env} : compL fc fe tg own (d :: ds) ρ = match asgT tg d (wipeE ρ own) with
    | none => .no
    | some ρ1 => (fc ρ1).bind fun c ρ2 => match truD c with
      | none => .no
      | some true => (fe ρ2).bind fun y ρ3 => (compL fc fe tg own ds ρ3).bind fun ys ρ4 => .ok (y :: ys) ρ4
      | some false => compL fc fe tg own ds ρ2 := rfl
/-- from the block's start on: all but own cells and the new list -/
structure FD (H1 : Hp) (Wr : Addr → Prop) (D : Addr) (H : Hp) : Prop where
  keep : ∀ a o, ¬ Wr a → a ≠ D → H1 a = some o → H a = some o
  dom : ∀ a, (H1 a).isSome = true → (H a).isSome = true
theorem FD.fr {H1 H H' : Hp} {Wr : Addr → Prop} {D : Addr} (h : FD H1 Wr D H) (f : Fr Wr H H') : FD H1 Wr D H' := ⟨fun a o n z e => f.keep a o n (h.keep a o n z e), fun a e => f.dom a (h.dom a e)⟩
theorem FD.upd {H1 H : Hp} {Wr : Addr → Prop} {D : Addr} {o : HO} (h : FD H1 Wr D H) : FD H1 Wr D (upd H D o) := ⟨fun a u n z e => by
    rw [upd_ne z]
    exact h.keep a u n z e, fun a e => by
    by_cases z : a = D
    · rw [z, upd_same]; rfl
    · rw [upd_ne z]; exact h.dom a e⟩
/-- the reading of the whole form -/
theorem lc_read (hK : X.K = p.K) {e cd : Ex} {tg : Tg} {own : List Nat} {ds ys : List D} {ρ1 ρe : Env} {σ : L2.St} {H1 : Hp} {Wr : Addr → Prop} {J : L2.It} {Q : VK} (nc : isBor cd = none) (ne : isBor e = none) (m : ∀ i ∈ own, p.M i = false) (hs : ∀ i ∈ tgSlots tg, i ∈ own)
    (r1 : Rel p ρ1 σ H1 Wr) (jk : JOk p J ds H1 Wr) (hz : ds.length ≤ sizeLine) (ev : compL (fun r => evE G cf cd r) (fun r => evE G cf e r) tg own ds ρ1 = .ok ys ρe)
    (k : ∀ a H, H1 a = none → Rel p (backE ρ1 ρe own) σ H Wr → Rel p (backE ρ1 ρe own) σ H (fun b => Wr b ∨ b = a) → Fr Wr H1 H → ¬ p.O Wr a → p.Own H (fun b => Wr b ∨ b = a) a (.lst ys) → Q (.ref a) H) :
    ∀ D, H1 D = none → ∃ Wk : Nat → Nat → Hp → Prop, (∃ m, Wk 0 m (upd H1 D (.lst []))) ∧ ∀ i m H, Wk i m H →
      (J.stop i H ∧ Q (.ref D) H) ∨ (J.go i H ∧ ∃ Nx : Hp → Prop, (∀ H', Nx H' → ∃ m', m' < m ∧ Wk (i + 1) m' H') ∧ ∀ x H', J.yld i H x H' → gOf X.K tg x (L2.wipe σ own) H' fun σ2 H2 => L2.wipe σ2 own = L2.wipe σ own ∧ tTb p G cf cd σ2 H2 fun b H3 =>
        if b = true then tEb p G cf e σ2 H3 fun y H4 => ∃ acc, H4 D = some (.lst acc) ∧ acc.length < sizeLine ∧ Nx (upd H4 D (.lst (acc ++ [y]))) else Nx H3) := by
  intro D hD
  obtain ⟨n, Gd, Y, hn, wk, jy⟩ := jk
  have nW : ¬ Wr D := fun z => by
    have := r1.dom D (.inr z)
    rw [hD] at this; cases this
  have mt : ∀ i ∈ tgSlots tg, (p.z D).M i = false := fun i hi => m i (hs i hi)
  -- the state between turns
  refine lc_it wk (fun i H => ∃ ρ' acc ya yr, Rel (p.z D) (wipeE ρ' own) (L2.wipe σ own) H Wr ∧ FD H1 Wr D H ∧ H D = some (.lst acc) ∧ RepA p.K p.cl H ((p.z D).O Wr) acc ya ∧ acc.length ≤ i ∧
    compL (fun r => evE G cf cd r) (fun r => evE G cf e r) tg own (ds.drop i) ρ' = .ok yr ρe ∧ ys = ya ++ yr) ⟨ρ1, [], [], ys, (r1.toZ hD).wipe m, FD.upd ⟨fun _ _ _ _ e => e, fun _ e => e⟩, upd_same, .nil, Nat.le_refl _, ev, rfl⟩ ?_ ?_ ?_
  all_goals
    have base : ∀ {H : Hp}, FD H1 Wr D H → FW p H1 Wr H (fun b => Wr b ∨ b = D) := fun {H} f => ⟨fun a o na e => f.keep a o (fun z => na (.inr z)) (fun z => by rw [z, hD] at e; cases e) e, f.dom, fun a e z => by
        rcases oz a z with z | z
        · exact z
        · rw [z, hD] at e; cases e⟩
    have oo : (p.z D).O Wr = p.O (fun b => Wr b ∨ b = D) := by
      funext a
      refine propext ⟨fun z => ?_, fun z => ?_⟩
      · rcases z_o.mp z with (z | z) | z
        · exact .inl z
        · exact .inr (.inl z)
        · exact .inr (.inr z)
      · rcases z with z | z | z
        · exact z_o.mpr (.inl (.inl z))
        · exact z_o.mpr (.inl (.inr z))
        · exact z_o.mpr (.inr z)
  · rintro i H hi ⟨ρ', acc, ya, yr, r, f, hd, ra, hl, hc, hy⟩
    exact (jy H _ (base f) (fun a z => r.dom a (by rw [oo]; exact z))).1
  · rintro i x H H' hi ⟨ρ', acc, ya, yr, r, f, hd, ra, hl, hc, hy⟩ y
    obtain ⟨d, ed, sm, rp⟩ := (jy H _ (base f) (fun a z => r.dom a (by rw [oo]; exact z))).2 i x H' y
    have hlt : i < ds.length := (List.getElem?_eq_some_iff.mp ed).1
    have e0 : ds.drop i = d :: ds.drop (i + 1) := by
      rw [List.drop_eq_getElem_cons hlt]
      congr 1
      exact (List.getElem?_eq_some_iff.mp ed).2
    rw [e0, compL_cons] at hc
    have rp' : (p.z D).Rep H' Wr x d := by
      show PD.Rep p.K p.cl H' ((p.z D).O Wr) x d
      rw [oo]; exact rp
    have r0 := r.same sm
    have f0 := f.fr (Fr.same (Wr := Wr) sm)
    have hd0 := sm D _ hd
    have ra0 := ra.same sm
    cases ea : asgT tg d (wipeE ρ' own) with
    | none => rw [ea] at hc; cases hc
    | some ρ2 =>
      rw [ea] at hc
      simp only at hc
      refine gOf_sem (p := p.z D) hK mt ea r0 rp' fun σ2 r2 l2 o2 => ?_
      have w2 : L2.wipe σ2 own = L2.wipe σ own := by
        have h1 := wipe_eq (vs := own) l2 fun j hj => o2 j fun z => hj (hs j z)
        rw [h1]
        refine wipe_eq (wipe_length ..) fun j hj => wipe_out hj
      refine ⟨w2, D, ρ2, Wr, r2, ?_⟩
      have evc : evT G cf cd ρ2 = (evE G cf cd ρ2).bind fun c r => ofO (truD c) r := by
        unfold evT
        refine congrArg _ (funext fun d => funext fun ρ2 => ?_)
        rw [fx_clean nc]
      rw [evc]
      cases ec : evE G cf cd ρ2 with
      | no => rw [ec] at hc; cases hc
      | ex c fs ρ3 => rw [ec] at hc; cases hc
      | ok c ρ3 =>
        rw [ec] at hc
        simp only [R.bind] at hc ⊢
        cases et : truD c with
        | none => rw [et] at hc; cases hc
        | some b =>
          rw [et] at hc
          intro H3 r3 f3
          have f03 := f0.fr f3
          have hd3 := f3.keep D _ nW hd0
          have ra3 : RepA p.K p.cl H3 ((p.z D).O Wr) acc ya := RepA.fr (p := p.z D) ra0 f3
          cases b with
          | false =>
            rw [if_neg Bool.false_ne_true]
            exact ⟨ρ3, acc, ya, yr, w2 ▸ r3.wipe m, f03, hd3, ra3, by omega, hc, hy⟩
          | true =>
            rw [if_pos rfl]
            simp only at hc
            refine ⟨D, ρ3, Wr, r3, ?_⟩
            cases ee : evE G cf e ρ3 with
            | no => rw [ee] at hc; cases hc
            | ex c fs ρ4 => rw [ee] at hc; cases hc
            | ok y ρ4 =>
              rw [ee] at hc
              simp only at hc
              cases er : compL (fun r => evE G cf cd r) (fun r => evE G cf e r) tg own (ds.drop (i + 1)) ρ4 with
              | no => rw [er] at hc; cases hc
              | ex c fs ρ5 => rw [er] at hc; cases hc
              | ok yr2 ρ5 =>
                rw [er] at hc
                cases hc
                intro v H4 r4 f4 w4
                have f04 := f03.fr f4
                have hd4 := f4.keep D _ nW hd3
                have ra4 : RepA p.K p.cl H4 ((p.z D).O Wr) acc ya := RepA.fr (p := p.z D) ra3 f4
                have rv := w4.rep ne
                have zD : (p.z D).O Wr D := .inl (.inr rfl)
                have up : ∀ a o, ¬ (p.z D).O Wr a → H4 a = some o → upd H4 D (.lst (acc ++ [v])) a = some o := fun a o n e => by
                  rw [upd_ne fun z => n (by rw [z]; exact zD)]
                  exact e
                refine ⟨acc, hd4, by omega, ρ4, acc ++ [v], ya ++ [y], yr2, w2 ▸ (r4.updZ nW).wipe m, f04.upd, upd_same, (ra4.snoc rv).frame up fun _ _ z => z, by rw [List.length_append]; simp; omega, er, by rw [hy, List.append_assoc]; rfl⟩
  · rintro H ⟨ρ', acc, ya, yr, r, f, hd, ra, hl, hc, hy⟩
    rw [hn, List.drop_length] at hc
    cases hc
    rw [List.append_nil] at hy
    subst hy
    have fr1 : ∀ a o, ¬ p.O Wr a → H1 a = some o → H a = some o := fun a o n e => (base f).fr a o n e
    refine k D H hD (r1.back r m hD fr1 (fun _ z => z) fun a z => z_o.mpr (.inl z)) (r1.back r m hD fr1 (fun _ z => .inl z) fun a z => by rw [oo]; exact z) ⟨fun a o n e => f.keep a o n (fun z => by rw [z, hD] at e; cases e) e, f.dom⟩ (fun z => ?_) (.lst hd (oo ▸ ra))
    · have := r1.dom D z
      rw [hD] at this; cases this
theorem sf_cmpr (hK : X.K = p.K) (hc : X.calm = true) (hN : X.N.Nodup) {e cd : Ex} {tg : Tg} {own : List (Str × Nat)} {it : PD.It} {elt tx iter : Expr} {ifs : List Expr} {scope : Scope} {pos : Pos} (hi : SI p W X G cf it tx iter) (ok : BlkOk X.N X.env.scope scope own)
    (m : ∀ i ∈ own.map (·.2), p.M i = false) (hs : ∀ i ∈ tgSlots tg, i ∈ own.map (·.2)) (nc : isBor cd = none) (ne : isBor e = none)
    (hg : ∀ (s : Shared) (H : Hp) (C : Addr) (cl : List (Str × Addr)) (fp : List Addr), PG (X.blk s H scope (compEnvC scope cl C X.env) fp) tx (gOf X.K tg))
    (ht : ∀ (s : Shared) (H : Hp) (C : Addr) (cl : List (Str × Addr)) (fp : List Addr), PTs (X.blk s H scope (compEnvC scope cl C X.env) fp) ifs (tTb p G cf cd))
    (he : ∀ (s : Shared) (H : Hp) (C : Addr) (cl : List (Str × Addr)) (fp : List Addr), PE (X.blk s H scope (compEnvC scope cl C X.env) fp) elt (tEb p G cf e))
    (hf : ∀ x, foldedSetIterable iter X.env x = pure x) : SF p W X G cf (.cmpr e tg (own.map (·.2)) it cd) (.ListComp elt [⟨tx, iter, ifs, 0⟩] scope pos) := fun ρ => by
  have pi := hi ρ
  simp only [evE]
  cases ei : evI G cf it ρ with
  | no => exact pf_no
  | ex c fs ρ1 =>
    rw [ei] at pi
    exact pe_imp (pe_lc hc hN pi ok hg ht he hf) fun σ H Q h => h
  | ok ds ρ1 =>
    rw [ei] at pi
    simp only [R.bind]
    cases ec : compL (fun r => evE G cf cd r) (fun r => evE G cf e r) tg (own.map (·.2)) ds ρ1 with
    | no => exact pf_no
    | ex c fs ρ2 => exact pf_no
    | ok ys ρe =>
      simp only
      by_cases hz : fitn ds.length = true
      · rw [if_pos hz]
        refine pe_imp (pe_lc hc hN pi ok hg ht he hf) fun σ H Q h => ?_
        obtain ⟨Wr, r, k⟩ := h
        refine ⟨Wr, r, fun J H1 r1 f1 jk => lc_read hK nc ne m hs r1 jk (of_decide_eq_true hz) ec fun a H2 na q1 q2 f2 no ow => ?_⟩
        refine k a H2 ?_ q1 q2 (f1.trans f2) no ow
        cases q : H a with
        | none => rfl
        | some o =>
          have := f1.dom a (by rw [q]; rfl)
          rw [na] at this; cases this
      · rw [if_neg hz]
        exact pf_no
variable {wf : Nat}
/-- name = [..] on one line -/
theorem ss_lc (hK : X.K = p.K) (hc : X.calm = true) (hN : X.N.Nodup) {k : Nat} {y : Str} {py spos : Pos} {e cd : Ex} {tg : Tg} {own : List (Str × Nat)} {it : PD.It} {elt tx iter : Expr} {ifs : List Expr} {scope : Scope} {pos : Pos} (hy : X.N[k]? = some y) (hyl : X.env.scope.names.lookup y = some .local)
    (hsw : swapsWith (.ListComp elt [⟨tx, iter, ifs, 0⟩] scope pos) (some (.Name y py)) spos.line X.env = pure true) (hi : SI p W X G cf it tx iter) (ok : BlkOk X.N X.env.scope scope own)
    (m : ∀ i ∈ own.map (·.2), p.M i = false) (hs : ∀ i ∈ tgSlots tg, i ∈ own.map (·.2)) (nc : isBor cd = none) (ne : isBor e = none)
    (hg : ∀ (s : Shared) (H : Hp) (C : Addr) (cl : List (Str × Addr)) (fp : List Addr), PG (X.blk s H scope (compEnvC scope cl C X.env) fp) tx (gOf X.K tg))
    (ht : ∀ (s : Shared) (H : Hp) (C : Addr) (cl : List (Str × Addr)) (fp : List Addr), PTs (X.blk s H scope (compEnvC scope cl C X.env) fp) ifs (tTb p G cf cd))
    (he : ∀ (s : Shared) (H : Hp) (C : Addr) (cl : List (Str × Addr)) (fp : List Addr), PE (X.blk s H scope (compEnvC scope cl C X.env) fp) elt (tEb p G cf e))
    (hf : ∀ x, foldedSetIterable iter X.env x = pure x) (st : Sm)
    (hst : (st = .asg (.nm k) (.cmpr e tg (own.map (·.2)) it cd) ∧ p.M k = false) ∨ (st = .own k (.cmpr e tg (own.map (·.2)) it cd) ∧ p.M k = true ∧ ∀ b, (k, b) ∉ p.io)) :
    SS p W X G cf wf st (.Assign [.Name y py] (.ListComp elt [⟨tx, iter, ifs, 0⟩] scope pos) spos) := ss_of fun ρ => by
  have pi := hi ρ
  have ev : exS G cf wf st ρ = (evE G cf (.cmpr e tg (own.map (·.2)) it cd) ρ).bindS fun d ρ1 => .nxt (ρ1.set k (some d)) := by
    rcases hst with ⟨rfl, _⟩ | ⟨rfl, _⟩ <;> simp only [exS, asgT]
  rw [ev]
  simp only [evE]
  cases ei : evI G cf it ρ with
  | no => exact ps_no1
  | ex c fs ρ1 =>
    rw [ei] at pi
    exact ps_imp (ps_setLc hc hN hy hyl hsw pi ok hg ht he hf) fun D σ H ⟨Φ, Wr, fo, r, f, q⟩ => ⟨Wr, r, ex_of fo f q⟩
  | ok ds ρ1 =>
    rw [ei] at pi
    simp only [R.bind]
    cases ec : compL (fun r => evE G cf cd r) (fun r => evE G cf e r) tg (own.map (·.2)) ds ρ1 with
    | no => exact ps_no1
    | ex c fs ρ2 => exact ps_no1
    | ok ys ρe =>
      simp only
      by_cases hz : fitn ds.length = true
      · rw [if_pos hz]
        refine ps_imp (ps_setLc hc hN hy hyl hsw pi ok hg ht he hf) fun D σ H ⟨Φ, Wr, fo, r, f, q⟩ => ?_
        refine ⟨Wr, r, fun J H1 r1 f1 jk => lc_read hK (Q := fun v H' => gName k v σ H' D.nx) nc ne m hs r1 jk (of_decide_eq_true hz) ec fun a H2 na q1 q2 f2 no ow => ?_⟩
        have na0 : H a = none := by
          cases q0 : H a with
          | none => rfl
          | some o =>
            have := f1.dom a (by rw [q0]; rfl)
            rw [na] at this; cases this
        rcases hst with ⟨rfl, mk⟩ | ⟨rfl, mk, nio⟩
        · exact q _ H2 Wr (q1.set mk (ow.rep (fun b z => z.imp id .inl) no)) (fo.step f (f1.trans f2))
        · exact q _ H2 _ (q1.take q2 mk nio no ow) (fo.grow f na0 (f1.trans f2))
      · rw [if_neg hz]
        exact ps_no1
end
end PD
end

section
set_option Elab.async false
set_option linter.all false
set_option maxRecDepth 100000
set_option maxHeartbeats 1000000
/-! PD13: iterators -/
namespace PD
open PySem PySem.Spec PyProof.Rows L2
section
variable {p : Pr} {W : WX} {X : Cx} {G : List D} {cf : Nat → List D → C} {tg : Expr}
theorem pi_imp {iter : Expr} {t t' : TI} (h : PI X tg iter t) (i : ∀ σ H R, t' σ H R → t σ H R) : PI X tg iter t' := ⟨fun pins s σ H R I q => h.run pins s σ H R I (i σ H R q)⟩
theorem pi_void {iter : Expr} {t : TI} (i : ∀ σ H R, ¬ t σ H R) : PI X tg iter t := ⟨fun pins s σ H R I q => (i σ H R q).elim⟩
theorem pi_no {iter : Expr} {ρ : Env} : PI X tg iter (tI p W ρ .no) := pi_void fun σ H R h => by
  obtain ⟨Wr, _, h⟩ := h
  exact h
theorem rng_get {lo : Int} {n i : Nat} (h : i < n) : (rngD lo n)[i]? = some (.int (lo + (i : Nat))) := by
  unfold rngD
  rw [List.getElem?_map, List.getElem?_range h]; rfl
theorem jok_list {H1 : Hp} {Wr : Addr → Prop} {a : Addr} {vs : List V} {ds : List D} (hK : X.K = p.K) (hs : SqL X.K H1 a vs) (no : (∃ o, H1 a = some o) → ¬ p.O Wr a) (r : RepA p.K p.cl H1 (p.O Wr) vs ds) : JOk p (Itl X.K a) ds H1 Wr := by
  refine ⟨_, _, _, r.length, walk_list (K := X.K) (a := a) (xs := vs), fun H2 W2 f dm => ⟨?_, fun i x H3 y => ?_⟩⟩
  · rcases hs with hs | hs
    · rcases hs with e | ⟨o, e⟩
      · exact .inl (.inl (f.fr _ _ (no ⟨_, e⟩) e))
      · exact .inl (.inr ⟨o, f.fr _ _ (no ⟨_, e⟩) e⟩)
    · exact .inr hs
  · obtain ⟨e, y⟩ := y
    subst e
    obtain ⟨d, e1, h⟩ := r.get y
    exact ⟨d, e1, Same.refl _, h.fw f⟩
theorem jok_listK {H1 : Hp} {Wr : Addr → Prop} {a : Addr} {vs : List V} {ds : List D} (hK : X.K = p.K) (hs : KL p.K a vs) (r : RepA p.K p.cl H1 (p.O Wr) vs ds) : JOk p (Itl X.K a) ds H1 Wr := by
  refine ⟨_, _, _, r.length, walk_list (K := X.K) (a := a) (xs := vs), fun H2 W2 f dm => ⟨.inr (hK ▸ hs), fun i x H3 y => ?_⟩⟩
  obtain ⟨e, y⟩ := y
  subst e
  obtain ⟨d, e1, h⟩ := r.get y
  exact ⟨d, e1, Same.refl _, h.fw f⟩
theorem jok_tup {H1 : Hp} {Wr : Addr → Prop} {a : Addr} {vs : List V} {ds : List D} (hs : (Rd H1 a (.tup vs) ∧ ¬ p.O Wr a) ∨ KT X.K a vs) (r : RepA p.K p.cl H1 (p.O Wr) vs ds) : JOk p (Itt X.K a) ds H1 Wr := by
  refine ⟨_, _, _, r.length, walk_tup (K := X.K) (a := a) (xs := vs), fun H2 W2 f dm => ⟨?_, fun i x H3 y => ?_⟩⟩
  · rcases hs with ⟨hs, no⟩ | hs
    · rcases hs with e | ⟨o, e⟩
      · exact .inl (.inl (f.fr _ _ no e))
      · exact .inl (.inr ⟨o, f.fr _ _ no e⟩)
    · exact hs.seq
  · obtain ⟨e, y⟩ := y
    subst e
    obtain ⟨d, e1, h⟩ := r.get y
    exact ⟨d, e1, Same.refl _, h.fw f⟩
theorem jok_str {H1 : Hp} {Wr : Addr → Prop} {z : Str} : JOk p (Its z) (charsD z) H1 Wr := by
  refine ⟨_, _, _, ?_, walk_str (z := z), fun H2 W2 f dm => ⟨trivial, fun i x H3 y => ?_⟩⟩
  · unfold charsD
    simp
  · obtain ⟨e, c, h1, h2⟩ := y
    subst e h2
    refine ⟨.str ⟨#[c]⟩, ?_, Same.refl _, .str _⟩
    unfold charsD
    rw [List.getElem?_map, Array.getElem?_toList, h1]; rfl
/-- the keys of a locked dict -/
theorem jok_keys {H1 : Hp} {Wr : Addr → Prop} {a : Addr} {o : Obj} {kvs : List (Key × V)} {ds : List (D × D)} (e : H1 a = some (.frz o (.dK kvs))) (no : ¬ p.O Wr a) (hk : ds.map (·.1) = kvs.map (fun q => kD q.1)) : JOk p (Itk a o kvs) (ds.map (·.1)) H1 Wr := by
  have hl : (ds.map (·.1)).length = kvs.length := by rw [hk, List.length_map]
  refine ⟨_, fun H => H a = some (.frz o (.dK kvs)), fun i H x H' => H' = H ∧ ∃ k v, kvs[i]? = some (k, v) ∧ x = kV k, hl.symm, ⟨fun i H hi q => ⟨q, hi⟩, fun H q => ⟨q, Nat.le_refl _⟩, fun i H x H' _ _ y => y⟩, fun H2 W2 f dm => ⟨f.fr _ _ no e, fun i x H3 y => ?_⟩⟩
  obtain ⟨e3, k, v, h1, h2⟩ := y
  subst e3 h2
  refine ⟨kD k, ?_, Same.refl _, ?_⟩
  · rw [hk, List.getElem?_map, h1]; rfl
  · cases k with
    | inl i => exact .int i
    | inr z => exact .str z
/-- iterating over a clean value -/
theorem si_ex (hK : X.K = p.K) {e : Ex} {x : Expr} (h : SE p W X G cf e x) (n : isBor e = none) : SI p W X G cf (.ex e) tg x := fun ρ => by
  have pa := h ρ
  simp only [evI]
  cases ea : evE G cf e ρ with
  | no => exact pi_no
  | ex c fs ρ1 =>
    rw [ea] at pa
    exact pi_imp (pi_list pa) fun σ H R h => h
  | ok d ρ1 =>
    rw [ea] at pa
    simp only [R.bind, fx_clean n]
    cases d with
    | tup xs =>
      refine pi_imp (pi_tup pa) fun σ H R' h => ?_
      obtain ⟨Wr, r, k⟩ := h
      refine ⟨Wr, r, fun v H1 r1 f1 w1 => ?_⟩
      have w := w1.rep n
      cases w with
      | tup e no q =>
        have hs : SqT X.K H1 _ _ := .inl e
        exact ⟨_, rfl, ⟨_, hs⟩, k _ H1 r1 f1 (jok_tup (.inl ⟨e, no⟩) q)⟩
      | tupK e q =>
        rw [← hK] at e
        exact ⟨_, rfl, ⟨_, e.seq⟩, k _ H1 r1 f1 (jok_tup (.inr e) q)⟩
    | lst xs =>
      refine pi_imp (pi_list pa) fun σ H R' h => ?_
      obtain ⟨Wr, r, k⟩ := h
      refine ⟨Wr, r, fun v H1 r1 f1 w1 => ?_⟩
      have w := w1.rep n
      cases w with
      | lst e no q => exact ⟨_, rfl, ⟨_, SqL.of e⟩, k _ H1 r1 f1 (jok_list hK (SqL.of e) (fun _ => no) q)⟩
    | scr ns =>
      refine pi_imp (pi_list pa) fun σ H R' h => ?_
      obtain ⟨Wr, r, k⟩ := h
      refine ⟨Wr, r, fun v H1 r1 f1 w1 => ?_⟩
      have w := w1.rep n
      cases w with
      | scr e no =>
        have hs : SqL X.K H1 _ (ns.map V.int) := .inl e
        exact ⟨_, rfl, ⟨_, hs⟩, k _ H1 r1 f1 (jok_list hK hs (fun _ => no) (RepA.ints ns))⟩
      | scrK e =>
        have hs : SqL X.K H1 _ (ns.map V.int) := .inr (hK ▸ e)
        have nu : RepA p.K p.cl H1 (p.O Wr) (ns.map V.int) (ns.map D.int) := RepA.ints ns
        exact ⟨_, rfl, ⟨_, hs⟩, k _ H1 r1 f1 (jok_listK hK e nu)⟩
    | str z =>
      refine pi_imp (pi_str pa) fun σ H R' h => ?_
      obtain ⟨Wr, r, k⟩ := h
      refine ⟨Wr, r, fun v H1 r1 f1 w1 => ?_⟩
      have w := w1.rep n
      cases w
      exact ⟨z, rfl, k _ H1 r1 f1 jok_str⟩
    | fz kvs =>
      refine pi_imp (pi_keys pa) fun σ H R' h => ?_
      obtain ⟨Wr, r, k⟩ := h
      refine ⟨Wr, r, fun v H1 r1 f1 w1 => ?_⟩
      have w := w1.rep n
      cases w with
      | fK e no hk q => exact ⟨_, _, rfl, .inl ⟨_, e, k _ H1 r1 f1 (jok_keys e no hk)⟩⟩
    | _ => exact pi_no
theorem jok_rng {H1 : Hp} {Wr : Addr → Prop} {lo : Int} {n : Nat} : JOk p (Itr lo n) (rngD lo n) H1 Wr := by
  refine ⟨n, fun _ => True, fun i H x H' => i < n ∧ H' = H ∧ x = .int (lo + i), by simp [rngD], (walk_range (lo := lo) (n := n)).mono (fun _ _ => trivial) (fun i H x H' hi _ y => ⟨hi, y⟩), fun H2 W2 f dm => ⟨trivial, fun i x H3 y => ?_⟩⟩
  obtain ⟨hi, e, ex⟩ := y
  subst e ex
  exact ⟨_, rng_get hi, Same.refl _, .int _⟩
theorem okR_of {i : Int} (h : okR i = true) : -(2 ^ 62) ≤ i ∧ i < 2 ^ 62 := by
  unfold okR at h
  simpa using h
theorem si_rng1 {a : Ex} {xa : Expr} {p1 pos : Pos} (hg : Gl X "range") (hm : X.mg "range" = none) (ha : SE p W X G cf a xa) (na : isBor a = none) (hs : starEach [xa] X.env = [(false, eval xa X.env)]) : SI p W X G cf (.rng1 a) tg (.Call (.Name "range" p1) [xa] [] pos) := fun ρ => by
  have pa := ha ρ
  simp only [evI]
  have mk := fun (t : TE) (h : PE X xa t) => pi_range1 (tg := tg) (p := p1) (pos := pos) hg hm (pa_cons h pa_nil hs) hs
  cases ea : evE G cf a ρ with
  | no => exact pi_no
  | ex c fs ρ1 => rw [ea] at pa; exact pi_imp (mk _ pa) fun σ H R h => h
  | ok d ρ1 =>
    rw [ea] at pa
    simp only [R.bind]
    cases d with
    | int i =>
      simp only
      by_cases h0 : okR i = true
      · rw [if_pos h0]
        obtain ⟨h1, h2⟩ := okR_of h0
        refine pi_imp (mk _ pa) fun σ H R' h => ?_
        obtain ⟨Wr, r, k⟩ := h
        refine ⟨Wr, r, fun v H1 r1 f1 w1 => ?_⟩
        have w := w1.rep na
        cases w
        exact ⟨i, rfl, h1, h2, k _ H1 r1 f1 jok_rng⟩
      · rw [if_neg h0]
        exact pi_no
    | _ => exact pi_no
theorem si_rng2 {a b : Ex} {xa xb : Expr} {p1 pos : Pos} (hg : Gl X "range") (hm : X.mg "range" = none) (ha : SE p W X G cf a xa) (na : isBor a = none) (hb : SE p W X G cf b xb) (nb : isBor b = none) (hs : starEach [xa, xb] X.env = [(false, eval xa X.env), (false, eval xb X.env)]) (hs2 : starEach [xb] X.env = [(false, eval xb X.env)])
    (hs1 : starEach [xa, xb] X.env = (false, eval xa X.env) :: starEach [xb] X.env) : SI p W X G cf (.rng2 a b) tg (.Call (.Name "range" p1) [xa, xb] [] pos) := fun ρ => by
  have pa := ha ρ
  simp only [evI]
  have mk := fun (t u : TE) (h : PE X xa t) (h' : PE X xb u) => pi_range2 (tg := tg) (p := p1) (pos := pos) hg hm (pa_cons h (pa_cons h' pa_nil hs2) hs1) hs hs2
  cases ea : evE G cf a ρ with
  | no => exact pi_no
  | ex c fs ρ1 => rw [ea] at pa; exact pi_imp (mk _ _ pa (pe_void (t := fun _ _ _ => False) fun _ _ _ z => z)) fun σ H R h => h
  | ok d ρ1 =>
    rw [ea] at pa
    have pb := hb ρ1
    simp only [R.bind]
    cases eb : evE G cf b ρ1 with
    | no => exact pi_no
    | ex c fs ρ2 =>
      rw [eb] at pb
      refine pi_imp (mk _ _ pa pb) fun σ H R' h => ?_
      obtain ⟨Wr, r, k⟩ := h
      exact ⟨Wr, r, fun v H1 r1 f1 w1 => ⟨Wr, r1, fun dx H2 r2 f2 x2 => k dx H2 r2 (f1.trans f2) x2⟩⟩
    | ok e ρ2 =>
      rw [eb] at pb
      cases d with
      | int i =>
        cases e with
        | int j =>
          simp only
          by_cases h0 : (okR i && okR j) = true
          · rw [if_pos h0]
            rw [Bool.and_eq_true] at h0
            obtain ⟨h1, h2⟩ := okR_of h0.1
            obtain ⟨h3, h4⟩ := okR_of h0.2
            refine pi_imp (mk _ _ pa pb) fun σ H R' h => ?_
            obtain ⟨Wr, r, k⟩ := h
            refine ⟨Wr, r, fun v H1 r1 f1 w1 => ⟨Wr, r1, fun u H2 r2 f2 w2 => ?_⟩⟩
            have w := w1.rep na
            have w' := w2.rep nb
            cases w
            cases w'
            exact ⟨i, j, rfl, ⟨h1, h2, h3, h4⟩, k _ H2 r2 (f1.trans f2) jok_rng⟩
          · rw [if_neg h0]
            exact pi_no
        | _ => exact pi_no
      | _ => exact pi_no
end
end PD
end

section
set_option Elab.async false
set_option linter.all false
set_option maxRecDepth 100000
set_option maxHeartbeats 1000000
/-! PDZ: zip over any two things that are drawn from -/
namespace PD
open PySem PySem.Spec PyProof.Rows L2
theorem draws_tuple {prog : Program} {w : World} {A : Around} (hh : A.handled = none) (it l : Addr) (hne : l ≠ it) (items : Array Value) :
    Draws prog w A it [it, l] items.size (fun i v => items[i]? = some v) (fun i h => h.IsTupleIter it l i ∧ h.IsTuple l items) where
  live := fun _ _ st => by
    obtain ⟨⟨o, ho, _⟩, _⟩ := st
    exact ⟨o, ho⟩
  frame := fun _ _ _ st hk => ⟨st.1.at fun o e => hk it (by simp) o e, by
    obtain ⟨o, ho, r⟩ := st.2
    exact ⟨o, hk l (by simp) o ho, r⟩⟩
  item := fun i s Q E hi st hQ => by
    refine RZ.nextOf_tuple_item st.1 st.2 (x := items[i]) (by simp [hi]) fun h' hit' hs' => ?_
    exact hQ _ h' s.toks (by simp [hi]) ⟨hit', st.2.extBut hs'.extBut hne⟩ hs'
  done := fun s Q E st hE => RZ.nextOf_tuple_end hh st.1 st.2 (by simp) hE
section
variable {prog : Program} {w : World} {A : Around} {E : Value → Shared → Prop} {s : Shared}
/-- who stands apart -/
structure ZApart (z TI TO i1 i2 : Addr) (f1 f2 : List Addr) : Prop where
  TIz : TI ≠ z
  TOz : TO ≠ z
  TITO : TI ≠ TO
  z1 : z ∉ f1
  z2 : z ∉ f2
  t1 : TO ∉ f1
  t2 : TO ∉ f2
  u1 : TI ∉ f1
  u2 : TI ∉ f2
  o1 : i1 ∉ f2
  o2 : i2 ∉ f1
  m1 : i1 ∈ f1
  m2 : i2 ∈ f2
variable {z TI TO i1 i2 : Addr} {f1 f2 : List Addr} {n1 n2 : Nat} {P1 P2 : Nat → Value → Prop} {S1 S2 : Nat → Heap → Prop}
theorem draw_ext {it b : Addr} {fp : List Addr} {n : Nat} {P : Nat → Value → Prop} {St : Nat → Heap → Prop} (D : Draws prog w A it fp n P St) {i : Nat} {h h' : Heap} (st : St i h) (x : Heap.ExtBut b h h') (hb : b ∉ fp) : St i h' :=
  D.frame i h h' st fun c hc o e => x c o (fun q => hb (q ▸ hc)) e
theorem zipD_item {k : Nat} {a b : Value} {Q : Value → Shared → Prop} (D : ZApart z TI TO i1 i2 f1 f2) (D1 : Draws prog w A i1 f1 n1 P1 S1) (D2 : Draws prog w A i2 f2 n2 P2 S2)
    (hz : IsZip s.heap z TI TO .none) (hTI : IsPair s.heap TI (.ref i1) (.ref i2)) (hTO : IsPair s.heap TO a b) (h1 : S1 k s.heap) (h2 : S2 k s.heap) (l1 : k < n1) (l2 : k < n2)
    (hQ : ∀ h' tk x y, P1 k x → P2 k y → IsZip h' z TI TO (rawInt s.heap.objs.size) → IsPair h' TO x y → S1 (k + 1) h' → S2 (k + 1) h' → IsPair h' s.heap.objs.size x y → h'.objs.size = s.heap.objs.size + 1 →
      (∀ c o, c ≠ z → c ≠ TO → c ≠ i1 → c ≠ i2 → s.heap.get? c = some o → h'.get? c = some o) → Q (.ref s.heap.objs.size) { s with heap := h', toks := tk }) :
    wpAny (model prog w) A (Builtin.«zip.__next__» ⟨[.ref z], []⟩) (fun fin s' => ∃ v, fin = .done (.ret v) ∧ Q v s') E s := by
  have i1z : i1 ≠ z := fun q => D.z1 (q ▸ D.m1)
  have i2z : i2 ≠ z := fun q => D.z2 (q ▸ D.m2)
  have TOi1 : TO ≠ i1 := fun q => D.t1 (q ▸ D.m1)
  have TOi2 : TO ≠ i2 := fun q => D.t2 (q ▸ D.m2)
  show wpAny _ _ (field (.ref z) 2 >>= _) _ _ _
  refine wpAny_bind (wpAny_field hz rfl (x := .bool false) rfl ?_)
  show wpAny _ _ (field (.ref z) 3 >>= _) _ _ _
  refine wpAny_bind (wpAny_field hz rfl (x := .ref TI) rfl ?_)
  refine wpAny_bind (wpAny_seqItems hTI rfl ?_)
  show wpAny _ _ (Builtin.SmallTypes.ownedTupleIsFree (.ref z) >>= _) _ _ _
  refine wpAny_bind ?_
  unfold Builtin.SmallTypes.ownedTupleIsFree
  refine wpAny_bind (wpAny_field hz rfl (x := .none) rfl (wpAny_pure ?_))
  simp only [if_true]
  refine wpAny_bind (wpAny_rule ?_)
  refine wpAny_bind (wpAny_field hz rfl (x := .ref TO) rfl ?_)
  refine wpAny_bind (wpAny_setField_rec hz (by simp) fun g₁ hz₁ hs₁ => ?_)
  replace hz₁ : IsZip g₁ z TI TO .ellipsis := hz₁
  refine wpAny_bind ?_
  simp only [List.zipIdx_cons, List.zipIdx_nil, List.forIn_cons, List.forIn_nil]
  refine wpAny_bind (wpAny_bind (wpAny_onRaise ?_))
  show wpAny _ _ (Builtin.SmallTypes.nextOf (.ref i1) >>= _) _ _ _
  refine wpAny_bind (D1.item k _ _ _ l1 (draw_ext D1 h1 hs₁.extBut D.z1) fun x g₂ tk₂ px st₂ hs₂ => wpAny_pure ?_)
  have hTO₂ : IsPair g₂ TO a b := hs₂.extBut _ _ TOi1 (hs₁.extBut _ _ D.TOz hTO)
  refine wpAny_bind (wpAny_seqItems (s := { s with heap := g₂, toks := tk₂ }) hTO₂ rfl ?_)
  refine wpAny_bind (wpAny_updateSeq_pair (s := { s with heap := g₂, toks := tk₂ }) hTO₂ fun g₃ hTO₃ hs₃ => ?_)
  replace hTO₃ : IsPair g₃ TO x b := hTO₃
  refine wpAny_bind (wpAny_letGo (wpAny_pure ?_))
  refine wpAny_bind (wpAny_bind (wpAny_onRaise ?_))
  show wpAny _ _ (Builtin.SmallTypes.nextOf (.ref i2) >>= _) _ _ _
  refine wpAny_bind (D2.item k _ _ _ l2 (draw_ext D2 (draw_ext D2 (draw_ext D2 h2 hs₁.extBut D.z2) hs₂.extBut D.o1) hs₃.extBut D.t2) fun y g₄ tk₄ py st₄ hs₄ => wpAny_pure ?_)
  have hTO₄ : IsPair g₄ TO x b := hs₄.extBut _ _ TOi2 hTO₃
  refine wpAny_bind (wpAny_seqItems (s := { s with heap := g₄, toks := tk₄ }) hTO₄ rfl ?_)
  refine wpAny_bind (wpAny_updateSeq_pair (s := { s with heap := g₄, toks := tk₄ }) hTO₄ fun g₅ hTO₅ hs₅ => ?_)
  replace hTO₅ : IsPair g₅ TO x y := hTO₅
  refine wpAny_bind (wpAny_letGo (wpAny_pure (wpAny_pure ?_)))
  refine wpAny_bind (wpAny_seqItems (s := { s with heap := g₅, toks := tk₄ }) hTO₅ rfl ?_)
  refine wpAny_bind (wpAny_newTuple ?_)
  have hsz : g₅.objs.size = s.heap.objs.size := by rw [hs₅.1, hs₄.1, hs₃.1, hs₂.1, hs₁.1]
  have hz₅ : IsZip g₅ z TI TO .ellipsis := hs₅.extBut _ _ D.TOz.symm (hs₄.extBut _ _ i2z.symm (hs₃.extBut _ _ D.TOz.symm (hs₂.extBut _ _ i1z.symm hz₁)))
  have kept : ∀ c o, c ≠ z → c ≠ TO → c ≠ i1 → c ≠ i2 → s.heap.get? c = some o → g₅.get? c = some o := fun c o c1 c2 c3 c4 e =>
    hs₅.extBut _ _ c2 (hs₄.extBut _ _ c4 (hs₃.extBut _ _ c2 (hs₂.extBut _ _ c3 (hs₁.extBut _ _ c1 e))))
  have s1₅ : S1 (k + 1) g₅ := draw_ext D1 (draw_ext D1 (draw_ext D1 st₂ hs₃.extBut D.t1) hs₄.extBut D.o2) hs₅.extBut D.t1
  have s2₅ : S2 (k + 1) g₅ := draw_ext D2 st₄ hs₅.extBut D.t2
  have zlt : z < g₅.objs.size := Heap.lt_size hz₅
  show wpAny _ _ (Builtin.SmallTypes.ownedTupleHandOut (.ref z) (.ref g₅.objs.size) >>= _) _ _ _
  refine wpAny_bind ?_
  unfold Builtin.SmallTypes.ownedTupleHandOut
  have hz₆ : IsZip (g₅.push { cls := .type "tuple", data := .seq #[x, y] }) z TI TO .ellipsis := Heap.get?_push_of_some _ hz₅
  refine wpAny_bind (wpAny_setField_rec (s := { s with heap := g₅.push { cls := .type "tuple", data := .seq #[x, y] }, toks := tk₄ }) hz₆ (by simp) fun g₇ hz₇ hs₇ => ?_)
  replace hz₇ : IsZip g₇ z TI TO (rawInt g₅.objs.size) := hz₇
  refine wpAny_setField_rec (s := { s with heap := g₇, toks := tk₄ }) hz₇ (by simp) fun g₈ hz₈ hs₈ => ?_
  replace hz₈ : IsZip g₈ z TI TO (rawInt g₅.objs.size) := hz₈
  have up : ∀ c o, c ≠ z → g₅.get? c = some o → g₈.get? c = some o := fun c o c1 e => hs₈.extBut _ _ c1 (hs₇.extBut _ _ c1 (Heap.get?_push_of_some _ e))
  have hT₈ : IsPair g₈ g₅.objs.size x y := hs₈.extBut _ _ (Nat.ne_of_gt zlt) (hs₇.extBut _ _ (Nat.ne_of_gt zlt) (Heap.get?_push_size _ rfl))
  have size₈ : g₈.objs.size = g₅.objs.size + 1 := by rw [hs₈.1, hs₇.1, Heap.size_push]
  rw [hsz] at hz₈ hT₈ size₈
  refine wpAny_pure ⟨_, rfl, ?_⟩
  show Q (.ref g₅.objs.size) _
  rw [hsz]
  exact hQ g₈ tk₄ x y px py hz₈ (up _ _ D.TOz hTO₅) (D1.frame _ _ _ s1₅ fun c hc o e => up c o (fun q => D.z1 (q ▸ hc)) e) (D2.frame _ _ _ s2₅ fun c hc o e => up c o (fun q => D.z2 (q ▸ hc)) e) hT₈ size₈ fun c o c1 c2 c3 c4 e => up c o c1 (kept c o c1 c2 c3 c4 e)
theorem zipD_end {k : Nat} {a b : Value} {Q : Fin → Shared → Prop} (D : ZApart z TI TO i1 i2 f1 f2) (D1 : Draws prog w A i1 f1 n1 P1 S1) (D2 : Draws prog w A i2 f2 n2 P2 S2)
    (hz : IsZip s.heap z TI TO .none) (hTI : IsPair s.heap TI (.ref i1) (.ref i2)) (hTO : IsPair s.heap TO a b) (h1 : S1 k s.heap) (h2 : S2 k s.heap) (le1 : k ≤ n1) (le2 : k ≤ n2) (hend : k = n1 ∨ k = n2)
    (hE : ∀ h' tk e, (∀ c o, c ≠ z → c ≠ TO → c ≠ i1 → c ≠ i2 → s.heap.get? c = some o → h'.get? c = some o) → (∃ o, h'.get? e = some o ∧ o.cls = .type "StopIteration") → E (.ref e) { s with heap := h', toks := tk }) :
    wpAny (model prog w) A (Builtin.«zip.__next__» ⟨[.ref z], []⟩) Q E s := by
  have i1z : i1 ≠ z := fun q => D.z1 (q ▸ D.m1)
  have i2z : i2 ≠ z := fun q => D.z2 (q ▸ D.m2)
  have TOi1 : TO ≠ i1 := fun q => D.t1 (q ▸ D.m1)
  have TOi2 : TO ≠ i2 := fun q => D.t2 (q ▸ D.m2)
  show wpAny _ _ (field (.ref z) 2 >>= _) _ _ _
  refine wpAny_bind (wpAny_field hz rfl (x := .bool false) rfl ?_)
  show wpAny _ _ (field (.ref z) 3 >>= _) _ _ _
  refine wpAny_bind (wpAny_field hz rfl (x := .ref TI) rfl ?_)
  refine wpAny_bind (wpAny_seqItems hTI rfl ?_)
  show wpAny _ _ (Builtin.SmallTypes.ownedTupleIsFree (.ref z) >>= _) _ _ _
  refine wpAny_bind ?_
  unfold Builtin.SmallTypes.ownedTupleIsFree
  refine wpAny_bind (wpAny_field hz rfl (x := .none) rfl (wpAny_pure ?_))
  simp only [if_true]
  refine wpAny_bind (wpAny_rule ?_)
  refine wpAny_bind (wpAny_field hz rfl (x := .ref TO) rfl ?_)
  refine wpAny_bind (wpAny_setField_rec hz (by simp) fun g₁ hz₁ hs₁ => ?_)
  replace hz₁ : IsZip g₁ z TI TO .ellipsis := hz₁
  refine wpAny_bind ?_
  simp only [List.zipIdx_cons, List.zipIdx_nil, List.forIn_cons, List.forIn_nil]
  refine wpAny_bind (wpAny_bind (wpAny_onRaise ?_))
  show wpAny _ _ (Builtin.SmallTypes.nextOf (.ref i1) >>= _) _ _ _
  have st₁ : S1 k g₁ := draw_ext D1 h1 hs₁.extBut D.z1
  by_cases e1 : k = n1
  · subst e1
    refine wpAny_bind (D1.done _ _ _ st₁ fun g₂ e hs₂ he => ?_)
    obtain ⟨oe, hoe, hce⟩ := he
    have hz₂ : IsZip g₂ z TI TO .ellipsis := hs₂ _ _ i1z.symm hz₁
    have hez : e ≠ z := fun x => by subst x; rw [hz₂] at hoe; cases hoe; simp at hce
    refine wpAny_setField_rec (s := { s with heap := g₂ }) hz₂ (by simp) fun g₃ _ hs₃ => hE g₃ s.toks e (fun c o c1 _ c3 _ x => hs₃.extBut _ _ c1 (hs₂ _ _ c3 (hs₁.extBut _ _ c1 x))) ⟨oe, hs₃.extBut _ _ hez hoe, hce⟩
  · have e2 : k = n2 := by rcases hend with q | q; exact (e1 q).elim; exact q
    refine wpAny_bind (D1.item k _ _ _ (by omega) st₁ fun x g₂ tk₂ px st₂ hs₂ => wpAny_pure ?_)
    have hTO₂ : IsPair g₂ TO a b := hs₂.extBut _ _ TOi1 (hs₁.extBut _ _ D.TOz hTO)
    refine wpAny_bind (wpAny_seqItems (s := { s with heap := g₂, toks := tk₂ }) hTO₂ rfl ?_)
    refine wpAny_bind (wpAny_updateSeq_pair (s := { s with heap := g₂, toks := tk₂ }) hTO₂ fun g₃ hTO₃ hs₃ => ?_)
    refine wpAny_bind (wpAny_letGo (wpAny_pure ?_))
    refine wpAny_bind (wpAny_bind (wpAny_onRaise ?_))
    show wpAny _ _ (Builtin.SmallTypes.nextOf (.ref i2) >>= _) _ _ _
    subst e2
    refine wpAny_bind (D2.done _ _ _ (draw_ext D2 (draw_ext D2 (draw_ext D2 h2 hs₁.extBut D.z2) hs₂.extBut D.o1) hs₃.extBut D.t2) fun g₄ e hs₄ he => ?_)
    obtain ⟨oe, hoe, hce⟩ := he
    have hz₄ : IsZip g₄ z TI TO .ellipsis := hs₄ _ _ i2z.symm (hs₃.extBut _ _ D.TOz.symm (hs₂.extBut _ _ i1z.symm hz₁))
    have hez : e ≠ z := fun x => by subst x; rw [hz₄] at hoe; cases hoe; simp at hce
    refine wpAny_setField_rec (s := { s with heap := g₄, toks := tk₂ }) hz₄ (by simp) fun g₅ _ hs₅ => hE g₅ tk₂ e (fun c o c1 c2 c3 c4 x => hs₅.extBut _ _ c1 (hs₄ _ _ c4 (hs₃.extBut _ _ c2 (hs₂.extBut _ _ c3 (hs₁.extBut _ _ c1 x))))) ⟨oe, hs₅.extBut _ _ hez hoe, hce⟩
theorem nextZ_item {k : Nat} {a b : Value} {Q : Option Value → Shared → Prop} (D : ZApart z TI TO i1 i2 f1 f2) (D1 : Draws prog w A.in1 i1 f1 n1 P1 S1) (D2 : Draws prog w A.in1 i2 f2 n2 P2 S2)
    (hz : IsZip s.heap z TI TO .none) (hTI : IsPair s.heap TI (.ref i1) (.ref i2)) (hTO : IsPair s.heap TO a b) (h1 : S1 k s.heap) (h2 : S2 k s.heap) (l1 : k < n1) (l2 : k < n2)
    (hQ : ∀ h' tk x y, P1 k x → P2 k y → IsZip h' z TI TO (rawInt s.heap.objs.size) → IsPair h' TO x y → S1 (k + 1) h' → S2 (k + 1) h' → IsPair h' s.heap.objs.size x y → h'.objs.size = s.heap.objs.size + 1 →
      (∀ c o, c ≠ z → c ≠ TO → c ≠ i1 → c ≠ i2 → s.heap.get? c = some o → h'.get? c = some o) → Q (some (.ref s.heap.objs.size)) { s with heap := h', toks := tk }) : wpAny (model prog w) A (pyNext (.ref z)) Q E s := by
  have hT : s.TypeIs (.ref z) "zip" := ⟨_, hz, rfl⟩
  unfold pyNext
  refine wpAny_bind (wpAny_attempt (wpAny_callSpecial?_slot (name := Str.ofString "__next__") hT F.slot_zip_next (wpAny_call_entry F.slot_zip_next hT F.entry_zip_next ?_ (F.args_zip_next_1 _))))
  exact zipD_item D D1 D2 hz hTI hTO h1 h2 l1 l2 fun h' tk x y a1 a2 a3 a4 a5 a6 a7 a8 a9 => wpAny_pure (hQ h' tk x y a1 a2 a3 a4 a5 a6 a7 a8 a9)
theorem nextZ_end {k : Nat} {a b : Value} {Q : Option Value → Shared → Prop} (D : ZApart z TI TO i1 i2 f1 f2) (D1 : Draws prog w A.in1 i1 f1 n1 P1 S1) (D2 : Draws prog w A.in1 i2 f2 n2 P2 S2)
    (hz : IsZip s.heap z TI TO .none) (hTI : IsPair s.heap TI (.ref i1) (.ref i2)) (hTO : IsPair s.heap TO a b) (h1 : S1 k s.heap) (h2 : S2 k s.heap) (le1 : k ≤ n1) (le2 : k ≤ n2) (hend : k = n1 ∨ k = n2)
    (hQ : ∀ h' tk, (∀ c o, c ≠ z → c ≠ TO → c ≠ i1 → c ≠ i2 → s.heap.get? c = some o → h'.get? c = some o) → Q none { s with heap := h', toks := tk }) : wpAny (model prog w) A (pyNext (.ref z)) Q E s := by
  have hT : s.TypeIs (.ref z) "zip" := ⟨_, hz, rfl⟩
  unfold pyNext
  refine wpAny_bind (wpAny_attempt (wpAny_callSpecial?_slot (name := Str.ofString "__next__") hT F.slot_zip_next (wpAny_call_entry F.slot_zip_next hT F.entry_zip_next (zipD_end D D1 D2 hz hTI hTO h1 h2 le1 le2 hend fun h' tk e hk he => ?_) (F.args_zip_next_1 _))))
  obtain ⟨o, ho, hc⟩ := he
  refine wpAny_bind (wpAny_isInstance (T := "StopIteration") (b := true) ⟨o, ho, hc⟩ isSubtype_stop ?_)
  exact wpAny_pure (hQ _ _ hk)
end
end PD
end

section
set_option Elab.async false
set_option linter.all false
set_option maxRecDepth 100000
set_option maxHeartbeats 1000000
/-! PDY: zip of a text and a tuple -/
namespace PD
open PySem PySem.Spec PyProof.Rows L2
/-- the signs of z with the items of the tuple at b -/
def Itzs (K : PySem.W.Frag) (z : Str) (b : Addr) : L2.It :=
  ⟨fun i H => ∃ (c : Nat) (ys : List V) (y : V), z.cps[i]? = some c ∧ SqT K H b ys ∧ ys[i]? = some y,
    fun i H v H' => ∃ T c y, v = .ref T ∧ H T = none ∧ H' = upd H T (.tup [.str ⟨#[c]⟩, y]) ∧ z.cps[i]? = some c ∧ ∀ ys, SqT K H b ys → ys[i]? = some y,
    fun i H => ∃ ys : List V, SqT K H b ys ∧ i ≤ z.cps.size ∧ i ≤ ys.length ∧ (i = z.cps.size ∨ i = ys.length)⟩
def StrD (ty : String) : Prop := ty = "str_ascii_iterator" ∨ ty = "str_iterator"
theorem draws_str {prog : Program} {w : World} {A : Around} {ty : String} (h : StrD ty) (hh : A.handled = none) (it : Addr) (x : Str) (t : Tok) :
    Draws prog w A it [it] x.cps.size (fun i v => ∃ c u, x.cps[i]? = some c ∧ v = .str ⟨#[c]⟩ u) (fun i h => h.IsStrIter it ty x t i) := by
  rcases h with e | e
  · rw [e]; exact Draws.strAscii hh it x t
  · rw [e]; exact Draws.strWide hh it x t
theorem turn_zips {P : Program} {w : World} {K : PySem.W.Frag} {elts : List Expr} {kk : Nat} {tpos : Pos} {z : Str} {t : Tok} {ty : String} {b q TI TO i1 i2 : Addr} (hs : StrD ty) (D : ZApart q TI TO i1 i2 [i1] [i2, b]) (nb : b ≠ i2) (tb : TI ≠ i1 ∧ TI ≠ i2) :
    Turn P w K (.Tuple elts kk tpos) (Itzs K z b) [q, TI, TO, i1, i2] q (fun i h => IsZip h q TI TO .none ∧ IsPair h TI (.ref i1) (.ref i2) ∧ (∃ x y, IsPair h TO x y) ∧ h.IsStrIter i1 ty z t i ∧ h.IsTupleIter i2 b i) where
  mem := by simp
  obj := fun i h st c hc => by
    obtain ⟨hz, hTI, ⟨x, y, hTO⟩, ⟨o1, e1, _, d1⟩, ⟨o2, e2, _, d2⟩⟩ := st
    have e' : c = q ∨ c = TI ∨ c = TO ∨ c = i1 ∨ c = i2 := by simpa using hc
    rcases e' with r | r | r | r | r
    · rw [r]; exact ⟨_, hz, fun v q => nomatch q⟩
    · rw [r]; exact ⟨_, hTI, fun v q => nomatch q⟩
    · rw [r]; exact ⟨_, hTO, fun v q => nomatch q⟩
    · rw [r]; exact ⟨o1, e1, fun v q => by rw [d1] at q; cases q⟩
    · rw [r]; exact ⟨o2, e2, fun v q => by rw [d2] at q; cases q⟩
  keep := fun i h h' st k => by
    obtain ⟨hz, hTI, ⟨x, y, hTO⟩, ⟨o1, e1, r1⟩, h2⟩ := st
    exact ⟨k q (by simp) _ hz, k TI (by simp) _ hTI, ⟨x, y, k TO (by simp) _ hTO⟩, ⟨o1, k i1 (by simp) _ e1, r1⟩, h2.at fun o q => k i2 (by simp) o q⟩
  item := by
    intro X hP hw hK hc i pins s σ H E I hf st hg
    subst hP hw hK
    obtain ⟨hz, hTI, ⟨x0, y0, hTO⟩, h1, h2⟩ := st
    obtain ⟨c, ys, y, hcz, hqy, hy⟩ := hg
    obtain ⟨its2, rv2, p2, _⟩ := I.tuple hqy
    obtain ⟨u2, hu2, ru2⟩ := rv2.get hy
    have hzl : q < s.heap.objs.size := Heap.lt_size hz
    have D1 := draws_str (prog := X.prog) (w := X.w) (A := X.A.in1) hs (I.ok.hd hc) i1 z t
    have D2 := draws_tuple (prog := X.prog) (w := X.w) (A := X.A.in1) (I.ok.hd hc) i2 b nb its2.toArray
    have l1 : i < z.cps.size := (Array.getElem?_eq_some_iff.mp hcz).1
    have l2 : i < its2.toArray.size := by
      have := (List.getElem?_eq_some_iff.mp hu2).1
      simpa using this
    refine nextZ_item D D1 D2 hz hTI hTO h1 ⟨h2, p2⟩ l1 l2 fun h' tk x v px pv z' TO' h1' h2' hT hsz hk => ?_
    obtain ⟨c', u, hc', rfl⟩ := px
    rw [hcz] at hc'
    cases hc'
    have pv : its2.toArray[i]? = some v := pv
    have ev : v = u2 := by
      have : its2[i]? = some v := by simpa using pv
      rw [hu2] at this
      cases this; rfl
    subst ev
    refine ⟨_, rfl, wpAny_letOwnedTupleGo_zip (s := { s with heap := h', toks := tk }) z' fun h'' z'' sb => ?_⟩
    have hT2 : h''.get? s.heap.objs.size = some { cls := .type "tuple", data := .seq #[.str ⟨#[c]⟩ u, v] } := (sb.2 _ (Nat.ne_of_gt hzl)).trans hT
    have new : ObjOk X.prog X.w (upd H s.heap.objs.size (.tup [.str ⟨#[c]⟩, y])) h'' s.heap.objs.size (.tup [.str ⟨#[c]⟩, y]) :=
      ⟨by show 2 ≤ sizeLine; decide, [.str ⟨#[c]⟩ u, v], .cons ⟨u, rfl⟩ (.cons ru2 .nil), ⟨_, hT2, rfl, _, rfl⟩⟩
    have I1 : Inv X pins σ (upd H s.heap.objs.size (.tup [.str ⟨#[c]⟩, y])) { s with heap := h'', toks := tk } :=
      I.turnedNew (t' := tk) (ch := [q, TI, TO, i1, i2]) (fun c o hb q => (sb.2 c (fun q' => hb (by simp [q']))).trans (hk c o (fun q' => hb (by simp [q'])) (fun q' => hb (by simp [q'])) (fun q' => hb (by simp [q'])) (fun q' => hb (by simp [q'])) q)) hf (Nat.le_refl _) new
    have i1q : i1 ≠ q := fun e => D.z1 (e ▸ D.m1)
    have i2q : i2 ≠ q := fun e => D.z2 (e ▸ D.m2)
    refine ⟨.ref s.heap.objs.size, _, I1, rfl, ⟨_, c, y, rfl, I.hok.fresh (Nat.le_refl _), rfl, hcz, fun l hl => by rw [I.tuple_inj hl hqy]; exact hy⟩, ⟨z'', ?_, ⟨.str ⟨#[c]⟩ u, v, ?_⟩, ?_, ?_⟩, fun d hdm => ?_⟩
    · exact (sb.2 _ D.TIz).trans (hk _ _ D.TIz D.TITO tb.1 tb.2 hTI)
    · exact (sb.2 _ D.TOz).trans TO'
    · obtain ⟨o, e, r⟩ := h1'
      exact ⟨o, (sb.2 _ i1q).trans e, r⟩
    · exact h2'.1.at fun o q => (sb.2 _ i2q).trans q
    · have hlt : d < s.heap.objs.size := by
        have e' : d = q ∨ d = TI ∨ d = TO ∨ d = i1 ∨ d = i2 := by simpa using hdm
        rcases e' with r | r | r | r | r
        · rw [r]; exact hzl
        · rw [r]; exact Heap.lt_size hTI
        · rw [r]; exact Heap.lt_size hTO
        · rw [r]; obtain ⟨_, e1, _⟩ := h1; exact Heap.lt_size e1
        · rw [r]; obtain ⟨_, e2, _⟩ := h2; exact Heap.lt_size e2
      rw [upd_ne (Nat.ne_of_lt hlt)]
      exact (hf d hdm).1
  done := by
    intro X hP hw hK hc i pins s σ H E I hf st hg
    subst hP hw hK
    obtain ⟨hz, hTI, ⟨x0, y0, hTO⟩, h1, h2⟩ := st
    obtain ⟨ys, hqy, le1, le2, hend⟩ := hg
    obtain ⟨its2, rv2, p2, _⟩ := I.tuple hqy
    have l2 := rv2.length
    have D1 := draws_str (prog := X.prog) (w := X.w) (A := X.A.in1) hs (I.ok.hd hc) i1 z t
    have D2 := draws_tuple (prog := X.prog) (w := X.w) (A := X.A.in1) (I.ok.hd hc) i2 b nb its2.toArray
    refine nextZ_end D D1 D2 hz hTI hTO h1 ⟨h2, p2⟩ le1 (by simp; omega) (by simp; omega) fun h' tk hk => ?_
    exact ⟨rfl, I.turnedL (t' := tk) (ch := [q, TI, TO, i1, i2]) (fun c o hb e => hk c o (fun q' => hb (by simp [q'])) (fun q' => hb (by simp [q'])) (fun q' => hb (by simp [q'])) (fun q' => hb (by simp [q'])) e) hf⟩
  self := fun A i s Q E st h => wpAny_pyIter_zip st.1 h
/-! ### zip(text, tuple) is made -/
abbrev zsH1 (h : Heap) (ty : String) (z : Str) (t : Tok) : Heap := h.push { cls := .type ty, data := .fields #[.str z t, .int 0 0] }
abbrev zsH2 (h : Heap) (ty : String) (z : Str) (t : Tok) (b : Addr) : Heap := (zsH1 h ty z t).push { cls := .type "tuple_iterator", data := .fields #[.ref b, .int 0 0] }
abbrev zsH3 (h : Heap) (ty : String) (z : Str) (t : Tok) (b : Addr) : Heap := (zsH2 h ty z t b).push { cls := .type "tuple", data := .seq #[.ref h.objs.size, .ref (zsH1 h ty z t).objs.size] }
abbrev zsH4 (h : Heap) (ty : String) (z : Str) (t : Tok) (b : Addr) : Heap := (zsH3 h ty z t b).push { cls := .type "tuple", data := .seq #[.none, .none] }
abbrev zsH5 (h : Heap) (ty : String) (z : Str) (t : Tok) (b : Addr) : Heap := (zsH4 h ty z t b).push { cls := .type "zip", data := .fields #[.none, .bool false, .bool false, .ref (zsH2 h ty z t b).objs.size, .ref (zsH3 h ty z t b).objs.size] }
def tyOf (z : Str) : String := if z.cps.all (· < 128) = true then "str_ascii_iterator" else "str_iterator"
theorem tyOf_ok (z : Str) : StrD (tyOf z) := by
  unfold tyOf
  split
  · exact .inl rfl
  · exact .inr rfl
theorem iter_str {prog : Program} {w : World} {A : Around} {E : Value → Shared → Prop} {s : Shared} {z : Str} {t : Tok} {Q : Value → Shared → Prop} (hQ : Q (.ref s.heap.objs.size) { s with heap := zsH1 s.heap (tyOf z) z t }) : wpAny (model prog w) A (pyIter (.str z t)) Q E s := by
  unfold tyOf at hQ
  cases ha : z.cps.all (· < 128) with
  | true => rw [ha, if_pos rfl] at hQ; exact wpAny_pyIter_ascii ha hQ
  | false => rw [ha, if_neg Bool.false_ne_true] at hQ; exact wpAny_pyIter_wide ha hQ
theorem meets_zips (z : Str) (t : Tok) (b : Addr) (ys : Array Value) :
    Meets (Builtin.«zip.__new__» ⟨[.type "zip", .str z t, .ref b], []⟩) (fun _ R s => s.heap.IsTuple b ys ∧ R (.ok (.ret (.ref (zsH4 s.heap (tyOf z) z t b).objs.size))) { s with heap := zsH5 s.heap (tyOf z) z t b }) :=
  .of_wp fun prog w A R s h => by
    obtain ⟨hp, g, d, tk, os⟩ := s
    obtain ⟨hl2, h⟩ := h
    have hsub := sub_zip
    have hL2 : Heap.IsTuple (Shared.heap ⟨zsH1 hp (tyOf z) z t, g, d, tk, os⟩) b ys := Heap.IsTuple.push hl2 _
    wp_walk using iter_str, wpAny_pyIter_tuple hL2
    exact ⟨_, rfl, h⟩
end PD
end

section
set_option Elab.async false
set_option linter.all false
set_option maxRecDepth 100000
set_option maxHeartbeats 1000000
/-! PDX: zip(text, tuple) as an iterator -/
namespace PD
open PySem PySem.Spec PyProof.Rows L2
section
variable {prog : Program} {w : World} {A : Around} {E : Value → Shared → Prop} {s : Shared}
theorem call_zips {z : Str} {t : Tok} {b : Addr} {ys : Array Value} {Q : Value → Shared → Prop} (hl2 : s.heap.IsTuple b ys)
    (h : ∀ h', IsZip h' (s.heap.objs.size + 4) (s.heap.objs.size + 2) (s.heap.objs.size + 3) .none → IsPair h' (s.heap.objs.size + 2) (.ref s.heap.objs.size) (.ref (s.heap.objs.size + 1)) → IsPair h' (s.heap.objs.size + 3) .none .none →
      h'.IsStrIter s.heap.objs.size (tyOf z) z t 0 → h'.IsTupleIter (s.heap.objs.size + 1) b 0 → (∀ c o, s.heap.get? c = some o → h'.get? c = some o) → Q (.ref (s.heap.objs.size + 4)) { s with heap := h' }) :
    wpAny (model prog w) A (call (.type "zip") [.str z t, .ref b]) Q E s := by
  refine callType_new F.called_zip (by decide) (F.typeCall_zip_2 _ _) (F.newCall_zip_2 _ _) (fun obj => F.args_object_init_3 obj _ _) F.entry_zip_new (meets_zips z t b ys) ⟨hl2, ?_⟩
  have e1 : (zsH1 s.heap (tyOf z) z t).objs.size = s.heap.objs.size + 1 := Heap.size_push ..
  have e2 : (zsH2 s.heap (tyOf z) z t b).objs.size = s.heap.objs.size + 2 := by rw [Heap.size_push, e1]
  have e3 : (zsH3 s.heap (tyOf z) z t b).objs.size = s.heap.objs.size + 3 := by rw [Heap.size_push, e2]
  have e4 : (zsH4 s.heap (tyOf z) z t b).objs.size = s.heap.objs.size + 4 := by rw [Heap.size_push, e3]
  have g5 : (zsH5 s.heap (tyOf z) z t b).get? (zsH4 s.heap (tyOf z) z t b).objs.size = some _ := Heap.get?_push_size _ rfl
  have g4 : (zsH5 s.heap (tyOf z) z t b).get? (zsH3 s.heap (tyOf z) z t b).objs.size = some _ := Heap.get?_push_of_some _ (Heap.get?_push_size _ rfl)
  have g3 : (zsH5 s.heap (tyOf z) z t b).get? (zsH2 s.heap (tyOf z) z t b).objs.size = some _ := Heap.get?_push_of_some _ (Heap.get?_push_of_some _ (Heap.get?_push_size _ rfl))
  have g2 : (zsH5 s.heap (tyOf z) z t b).get? (zsH1 s.heap (tyOf z) z t).objs.size = some _ := Heap.get?_push_of_some _ (Heap.get?_push_of_some _ (Heap.get?_push_of_some _ (Heap.get?_push_size _ rfl)))
  have g1 : (zsH5 s.heap (tyOf z) z t b).get? s.heap.objs.size = some _ := Heap.get?_push_of_some _ (Heap.get?_push_of_some _ (Heap.get?_push_of_some _ (Heap.get?_push_of_some _ (Heap.get?_push_size _ rfl))))
  show _ ∧ _
  rw [e2, e3, e4] at g5
  rw [e1, e2] at g3
  rw [e3] at g4
  rw [e1] at g2
  rw [e4]
  exact ⟨⟨_, g5, rfl⟩, h _ g5 g3 g4 ⟨_, g1, rfl, rfl⟩ ⟨_, g2, rfl, rfl⟩ fun c o x =>
    Heap.get?_push_of_some _ (Heap.get?_push_of_some _ (Heap.get?_push_of_some _ (Heap.get?_push_of_some _ (Heap.get?_push_of_some _ x))))⟩
end
theorem zap_of {b n : Nat} (h : b < n) : ZApart (n + 4) (n + 2) (n + 3) n (n + 1) [n] [n + 1, b] := by
  constructor <;> simp only [List.mem_cons, List.not_mem_nil, or_false, ne_eq, true_or, not_or] <;> first | exact Nat.ne_of_gt (by omega) | exact Nat.ne_of_lt (by omega) | (refine ⟨?_, ?_⟩ <;> first | exact Nat.ne_of_gt (by omega) | exact Nat.ne_of_lt (by omega)) | trivial
def iZips (K : PySem.W.Frag) (ta : TA) : TI := fun σ H R => ta σ H fun vs H1 => ∃ z b ys, vs = [.str z, .ref b] ∧ SqT K H1 b ys ∧ R (Itzs K z b) H1
theorem pi_zips {X : Cx} {e e2 : Expr} {ta : TA} {p1 pos tpos : Pos} {elts : List Expr} {kk : Nat} (hg : Gl X "zip") (hm : X.mg "zip" = none) (ha : PA X [e, e2] ta)
    (hs : starEach [e, e2] X.env = (false, eval e X.env) :: starEach [e2] X.env) (hpl : (backTo pos (starEach [e2] X.env)).any (·.1) = false) :
    PI X (.Tuple elts kk tpos) (.Call (.Name "zip" p1) [e, e2] [] pos) (iZips X.K ta) := by
  constructor
  intro pins s σ H R I h
  refine Call_ (ld_blt I hg hm PyProof.Rows.boot_zip (PyProof.Rows.callWith_type1 (thn (ha.run pos pins s σ H _ I h) ?_) hs hpl))
  rintro us s1 ⟨vs, H1, I1, r1, z, b, ys, ex, hqy, q⟩
  subst ex
  cases r1 with
  | cons r rr =>
    cases rr with
    | cons r' rr =>
      cases rr
      obtain ⟨t, rfl⟩ := r
      cases r'
      obtain ⟨its2, rv2, p2, _⟩ := I1.tuple hqy
      obtain ⟨o2, ho2, _⟩ := id p2
      have blt : b < s1.heap.objs.size := Heap.lt_size ho2
      refine call_zips (ys := its2.toArray) p2 fun h' hz hTI hTO h1 h2 hk => wpAny_pyIter_zip hz ?_
      have I2 : Inv X pins σ H1 { s1 with heap := h' } := I1.kept (t' := s1.toks) hk
      have D : ZApart (s1.heap.objs.size + 4) (s1.heap.objs.size + 2) (s1.heap.objs.size + 3) s1.heap.objs.size (s1.heap.objs.size + 1) [s1.heap.objs.size] [s1.heap.objs.size + 1, b] := by
        exact zap_of blt
      refine ⟨s1.heap.objs.size + 4, [s1.heap.objs.size + 4, s1.heap.objs.size + 2, s1.heap.objs.size + 3, s1.heap.objs.size, s1.heap.objs.size + 1], _, _, H1, rfl, I2, turn_zips (tyOf_ok z) D ?_ ?_, ⟨hz, hTI, ⟨_, _, hTO⟩, h1, h2⟩, fun c hc => ?_, q⟩
      · show b ≠ s1.heap.objs.size + 1
        exact Nat.ne_of_lt (Nat.lt_succ_of_lt blt)
      · exact ⟨Nat.ne_of_gt (Nat.lt_add_of_pos_right (by decide)), Nat.ne_of_gt (Nat.lt_succ_self _)⟩
      · have e' : c = s1.heap.objs.size + 4 ∨ c = s1.heap.objs.size + 2 ∨ c = s1.heap.objs.size + 3 ∨ c = s1.heap.objs.size ∨ c = s1.heap.objs.size + 1 := by simpa using hc
        have hle : s1.heap.objs.size ≤ c := by
          rcases e' with r | r | r | r | r <;> rw [r] <;> first | exact Nat.le_refl _ | exact Nat.le_add_right _ _
        exact I1.fpOk hle (I1.hok.fresh hle)
end PD
end

section
set_option Elab.async false
set_option linter.all false
set_option maxRecDepth 100000
set_option maxHeartbeats 1000000
/-! PDW: zip in a loop's head -/
namespace PD
open PySem PySem.Spec PyProof.Rows L2 RZ
section
variable {p : Pr} {W : WX} {X : Cx} {G : List D} {cf : Nat → List D → C} {tg : Expr}
theorem walk_zips {K : PySem.W.Frag} {z : Str} {b : Addr} {ys : List V} {n : Nat} (hn : n = min z.cps.size ys.length) : Walk (Itzs K z b) n (fun H => SqT K H b ys) (YPair (fun i => z.cps[i]?.map fun c => V.str ⟨#[c]⟩) (fun i => ys[i]?)) := by
  subst hn
  refine ⟨fun i _ hi q => ?_, fun _ q => ⟨ys, q, by omega, by omega, by omega⟩, fun i H v H' _ q y => ?_⟩
  · have h1 : i < z.cps.size := by omega
    have h2 : i < ys.length := by omega
    exact ⟨z.cps[i], ys, ys[i], by simp [h1], q, by simp [h2]⟩
  · obtain ⟨T, c, y, h1, h2, h3, h4, h5⟩ := y
    exact ⟨T, .str ⟨#[c]⟩, y, h1, h2, h3, by simp [h4], h5 ys q⟩
theorem walk_zipT {K : PySem.W.Frag} {a b : Addr} {xs ys : List V} {n : Nat} (hn : n = min xs.length ys.length) : Walk (ItzT K a b) n (fun H => SqT K H a xs ∧ SqT K H b ys) (YPair (fun i => xs[i]?) (fun i => ys[i]?)) := by
  subst hn
  refine ⟨fun i _ hi q => ?_, fun _ q => ⟨xs, ys, q.1, q.2, by omega⟩, fun i H v H' _ q y => ?_⟩
  · have h1 : i < xs.length := by omega
    have h2 : i < ys.length := by omega
    exact ⟨xs, ys, xs[i], ys[i], q.1, q.2, by simp [h1], by simp [h2]⟩
  · obtain ⟨T, x, z, h1, h2, h3, h4, h5⟩ := y
    exact ⟨T, x, z, h1, h2, h3, h4 xs q.1, h5 ys q.2⟩
theorem pairD_get {xs ys : List D} {i : Nat} {d e : D} (h1 : xs[i]? = some d) (h2 : ys[i]? = some e) : (pairD xs ys)[i]? = some (.tup [d, e]) := by
  unfold pairD
  rw [List.getElem?_map, List.getElem?_zip_eq_some (z := (d, e)) |>.mpr ⟨h1, h2⟩]
  rfl
theorem pairD_len (xs ys : List D) : (pairD xs ys).length = min xs.length ys.length := by
  unfold pairD
  rw [List.length_map, List.length_zip]
/-- an iterator that gives out new pairs of what stands -/
theorem jok_pair {J : L2.It} {Gd : Hp → Prop} {xs ys : List D} {us vs : List V} {H1 : Hp} {Wr : Addr → Prop} (w : Walk J (min us.length vs.length) Gd (YPair (fun i => us[i]?) (fun i => vs[i]?))) (ra : RepA p.K p.cl H1 (p.O Wr) us xs) (rb : RepA p.K p.cl H1 (p.O Wr) vs ys)
    (hG : ∀ H2 W2, FW p H1 Wr H2 W2 → Gd H2) : JOk p J (pairD xs ys) H1 Wr := by
  refine ⟨_, Gd, _, by rw [pairD_len, ra.length, rb.length], w, fun H2 W2 f dm => ⟨hG H2 W2 f, fun i x H3 y => ?_⟩⟩
  obtain ⟨T, u, v, e1, e2, e3, e4, e5⟩ := y
  subst e1 e3
  obtain ⟨d, f1, g1⟩ := ra.get e4
  obtain ⟨e, f2, g2⟩ := rb.get e5
  have s := same_upd (o := .tup [u, v]) e2
  refine ⟨_, pairD_get f1 f2, s, .tup (.inl upd_same) (nodom dm e2) ?_⟩
  exact ((RepA.cons g1 (.cons g2 .nil)).fw f).same s
theorem si_zip (hK : X.K = p.K) {a b : Ex} {xa xb : Expr} {p1 pos tpos : Pos} {elts : List Expr} {kk : Nat} (hg : Gl X "zip") (hm : X.mg "zip" = none) (ha : SE p W X G cf a xa) (na : isBor a = none) (hb : SE p W X G cf b xb) (nb : isBor b = none)
    (hs1 : starEach [xa, xb] X.env = (false, eval xa X.env) :: starEach [xb] X.env) (hs2 : starEach [xb] X.env = [(false, eval xb X.env)]) : SI p W X G cf (.zip a b) (.Tuple elts kk tpos) (.Call (.Name "zip" p1) [xa, xb] [] pos) := fun ρ => by
  have pa := ha ρ
  simp only [evI]
  have hpl : (backTo pos (starEach [xb] X.env)).any (·.1) = false := by rw [hs2]; rfl
  have mkS := fun (t u : TE) (h : PE X xa t) (h' : PE X xb u) => pi_zips (tpos := tpos) (elts := elts) (kk := kk) (p1 := p1) (pos := pos) hg hm (pa_cons h (pa_cons h' pa_nil hs2) hs1) hs1 hpl
  have mkA := fun (t u : TE) (h : PE X xa t) (h' : PE X xb u) => pi_zipA (tpos := tpos) (elts := elts) (kk := kk) (p := p1) (pos := pos) hg hm (pa_cons h (pa_cons h' pa_nil hs2) hs1) hs1 hpl
  cases ea : evE G cf a ρ with
  | no => exact pi_no
  | ex c fs ρ1 => rw [ea] at pa; exact pi_imp (mkA _ _ pa (pe_void (t := fun _ _ _ => False) fun _ _ _ z => z)) fun σ H R h => h
  | ok d ρ1 =>
    rw [ea] at pa
    have pb := hb ρ1
    simp only [R.bind]
    cases eb : evE G cf b ρ1 with
    | no => exact pi_no
    | ex c fs ρ2 =>
      rw [eb] at pb
      refine pi_imp (mkA _ _ pa pb) fun σ H R' h => ?_
      obtain ⟨Wr, r, k⟩ := h
      exact ⟨Wr, r, fun v H1 r1 f1 w1 => ⟨Wr, r1, fun dx H2 r2 f2 x2 => k dx H2 r2 (f1.trans f2) x2⟩⟩
    | ok e ρ2 =>
      rw [eb] at pb
      simp only [fx_clean na, fx_clean nb]
      cases ez : zipD d e with
      | none => exact pi_no
      | some zs =>
        unfold zipD at ez
        split at ez
        · rename_i s ys
          cases ez
          refine pi_imp (mkS _ _ pa pb) fun σ H R' h => ?_
          obtain ⟨Wr, r, k⟩ := h
          refine ⟨Wr, r, fun v H1 r1 f1 w1 => ⟨Wr, r1, fun u H2 r2 f2 w2 => ?_⟩⟩
          have w := w1.rep na
          have w' := w2.rep nb
          cases w
          have l1 : RepA p.K p.cl H2 (p.O Wr) (s.cps.toList.map fun c => V.str ⟨#[c]⟩) (charsD s) := RepA.chars _
          have e1 : (fun (i : Nat) => (s.cps.toList.map fun c => V.str ⟨#[c]⟩)[i]?) = fun (i : Nat) => s.cps[i]?.map fun c => V.str ⟨#[c]⟩ := by
            funext i
            rw [List.getElem?_map, Array.getElem?_toList]
          cases w' with
          | @tup b1 vs1 _ eo no q =>
            have hsq : SqT X.K H2 b1 vs1 := .inl eo
            refine ⟨s, _, _, rfl, hsq, k _ H2 r2 (f1.trans f2) (jok_pair (Gd := fun H => SqT X.K H b1 vs1) (us := s.cps.toList.map fun c => V.str ⟨#[c]⟩) ?_ l1 q fun H3 W3 f => ?_)⟩
            · rw [e1]
              exact walk_zips (by simp)
            · rcases eo with z | ⟨o, z⟩
              · exact .inl (.inl (f.fr _ _ no z))
              · exact .inl (.inr ⟨o, f.fr _ _ no z⟩)
          | @tupK b1 vs1 _ eo q =>
            rw [← hK] at eo
            refine ⟨s, _, _, rfl, eo.seq, k _ H2 r2 (f1.trans f2) (jok_pair (Gd := fun H => SqT X.K H b1 vs1) (us := s.cps.toList.map fun c => V.str ⟨#[c]⟩) ?_ l1 q fun H3 W3 f => eo.seq)⟩
            rw [e1]
            exact walk_zips (by simp)
        · rename_i xs ys
          cases ez
          refine pi_imp (mkA _ _ pa pb) fun σ H R' h => ?_
          obtain ⟨Wr, r, k⟩ := h
          refine ⟨Wr, r, fun v H1 r1 f1 w1 => ⟨Wr, r1, fun u H2 r2 f2 w2 => ?_⟩⟩
          have w := Rep.fr (w1.rep na) f2
          have w' := w2.rep nb
          cases w with
          | lst ea na qa =>
            cases w' with
            | lst eb nb qb =>
              refine ⟨_, _, _, _, rfl, .inl ⟨SqL.of ea, SqL.of eb, k _ H2 r2 (f1.trans f2) (jok_pair (walk_zip rfl) qa qb fun H3 W3 f => ?_)⟩⟩
              exact ⟨SqL.of (f.fr _ _ na ea), SqL.of (f.fr _ _ nb eb)⟩
        · rename_i xs ys
          cases ez
          refine pi_imp (mkA _ _ pa pb) fun σ H R' h => ?_
          obtain ⟨Wr, r, k⟩ := h
          refine ⟨Wr, r, fun v H1 r1 f1 w1 => ⟨Wr, r1, fun u H2 r2 f2 w2 => ?_⟩⟩
          have w := Rep.fr (w1.rep na) f2
          have w' := w2.rep nb
          have tq : ∀ {v : V} {zs : List D}, p.Rep H2 Wr v (.tup zs) → ∃ a vs, v = .ref a ∧ RepA p.K p.cl H2 (p.O Wr) vs zs ∧ ∀ H3 W3, FW p H2 Wr H3 W3 → SqT X.K H3 a vs := fun {v zs} w => by
            cases w with
            | tup eo no q =>
              refine ⟨_, _, rfl, q, fun H3 W3 f => ?_⟩
              rcases eo with z | ⟨o, z⟩
              · exact .inl (.inl (f.fr _ _ no z))
              · exact .inl (.inr ⟨o, f.fr _ _ no z⟩)
            | tupK eo q =>
              rw [← hK] at eo
              exact ⟨_, _, rfl, q, fun H3 W3 f => eo.seq⟩
          obtain ⟨a1, us, rfl, qa, ga⟩ := tq w
          obtain ⟨a2, vs, rfl, qb, gb⟩ := tq w'
          exact ⟨_, _, _, _, rfl, .inr ⟨ga H2 Wr FW.refl, gb H2 Wr FW.refl, k _ H2 r2 (f1.trans f2) (jok_pair (walk_zipT rfl) qa qb fun H3 W3 f => ⟨ga H3 W3 f, gb H3 W3 f⟩)⟩⟩
        · cases ez
end
end PD
end

section
set_option Elab.async false
set_option linter.all false
set_option maxRecDepth 100000
set_option maxHeartbeats 1000000
/-! PDV: enumerate of a tuple, and enumerate in a loop's head -/
namespace PD
open PySem PySem.Spec PyProof.Rows L2 RZ
def IteT (K : PySem.W.Frag) (b : Addr) : L2.It :=
  ⟨fun i H => ∃ (ys : List V) (y : V), SqT K H b ys ∧ ys[i]? = some y,
    fun i H v H' => ∃ T y, v = .ref T ∧ H T = none ∧ H' = upd H T (.tup [.int (i : Nat), y]) ∧ ∀ ys, SqT K H b ys → ys[i]? = some y,
    fun i H => ∃ ys : List V, SqT K H b ys ∧ i = ys.length⟩
theorem turn_enumT {P : Program} {w : World} {K : PySem.W.Frag} {elts : List Expr} {kk : Nat} {tpos : Pos} (b e it : Addr) (nb : b ≠ it) (ne : e ≠ it) (nbe : e ≠ b) :
    Turn P w K (.Tuple elts kk tpos) (IteT K b) [e, it] e (fun i h => (∃ old, IsEnum h e it ((i : Nat) : Int) old) ∧ h.IsTupleIter it b i) where
  mem := by simp
  obj := fun i h st c hc => by
    obtain ⟨⟨old, he⟩, ⟨o, ho, _, hd⟩⟩ := st
    have e' : c = e ∨ c = it := by simpa using hc
    rcases e' with z | z
    · rw [z]; exact ⟨_, he, fun v q => nomatch q⟩
    · rw [z]; exact ⟨o, ho, fun v q => by rw [hd] at q; cases q⟩
  keep := fun i h h' st k => let ⟨⟨old, he⟩, hi⟩ := st; ⟨⟨old, k e (by simp) _ he⟩, hi.at fun o q => k it (by simp) o q⟩
  item := by
    intro X hP hw hK hc i pins s σ H E I hf st hg
    subst hP hw hK
    obtain ⟨⟨old, he⟩, hit⟩ := st
    obtain ⟨ys, y, hqy, hy⟩ := hg
    obtain ⟨its, rv, p, _⟩ := I.tuple hqy
    obtain ⟨u, hu, ru⟩ := rv.get hy
    have hel : e < s.heap.objs.size := Heap.lt_size he
    have hil : it < s.heap.objs.size := by obtain ⟨_, q, _⟩ := hit; exact Heap.lt_size q
    have D2 := draws_tuple (prog := X.prog) (w := X.w) (A := X.A.in1) (I.ok.hd hc) it b nb its.toArray
    have l2 : i < its.toArray.size := by
      have := (List.getElem?_eq_some_iff.mp hu).1
      simpa using this
    refine wpAny_pyNext_enum_itemD D2 he ⟨hit, p⟩ l2 ne (by simp [ne, nbe]) fun x h' tk px ho hit' hT hsz hk => ?_
    have px : its.toArray[i]? = some x := px
    have ev : x = u := by
      have : its[i]? = some x := by simpa using px
      rw [hu] at this
      cases this; rfl
    subst ev
    refine ⟨_, rfl, wpAny_letOwnedTupleGo_enum (s := { s with heap := h', toks := tk + 1 }) ho fun h'' he' sb => ?_⟩
    have hT2 : h''.get? s.heap.objs.size = some { cls := .type "tuple", data := .seq #[.int i tk, x] } := (sb.2 _ (Nat.ne_of_gt hel)).trans hT
    have new : ObjOk X.prog X.w (upd H s.heap.objs.size (.tup [.int (i : Nat), y])) h'' s.heap.objs.size (.tup [.int (i : Nat), y]) :=
      ⟨by show 2 ≤ sizeLine; decide, [.int i tk, x], .cons ⟨_, rfl⟩ (.cons ru .nil), ⟨_, hT2, rfl, _, rfl⟩⟩
    have I1 : Inv X pins σ (upd H s.heap.objs.size (.tup [.int (i : Nat), y])) { s with heap := h'', toks := tk + 1 } :=
      I.turnedNew (t' := tk + 1) (ch := [e, it]) (fun c ob hb q => (sb.2 c (fun z => hb (by simp [z]))).trans (hk c ob (fun z => hb (by simp [z])) (fun z => hb (by simp [z])) q)) hf (Nat.le_refl _) new
    refine ⟨.ref s.heap.objs.size, _, I1, rfl, ⟨_, y, rfl, I.hok.fresh (Nat.le_refl _), rfl, fun l hl => by rw [I.tuple_inj hl hqy]; exact hy⟩, ⟨⟨x, ?_⟩, hit'.1.at fun o q => (sb.2 it (Ne.symm ne)).trans q⟩, fun c hb => ?_⟩
    · have e1 : ((i + 1 : Nat) : Int) = (i : Int) + 1 := by omega
      rw [e1]; exact he'
    · have hb' : c < s.heap.objs.size := by
        have e' : c = e ∨ c = it := by simpa using hb
        rcases e' with z | z
        · rw [z]; exact hel
        · rw [z]; exact hil
      rw [upd_ne (Nat.ne_of_lt hb')]
      exact (hf c hb).1
  done := by
    intro X hP hw hK hc i pins s σ H E I hf st hg
    subst hP hw hK
    obtain ⟨⟨old, he⟩, hit⟩ := st
    obtain ⟨ys, hqy, hx⟩ := hg
    obtain ⟨its, rv, p, _⟩ := I.tuple hqy
    have l2 := rv.length
    have D2 := draws_tuple (prog := X.prog) (w := X.w) (A := X.A.in1) (I.ok.hd hc) it b nb its.toArray
    have ei : i = its.toArray.size := by simp; omega
    subst ei
    refine wpAny_pyNext_enum_endD D2 he ⟨hit, p⟩ fun h' hx => ?_
    exact ⟨rfl, I.turnedL (t' := s.toks) (ch := [e, it]) (fun c o hb q => hx c o (fun q' => hb (by simp [q'])) q) hf⟩
  self := fun A i s Q E st h => let ⟨⟨_, he⟩, _⟩ := st; wpAny_pyIter_enum he h
theorem meets_enumT (l : Addr) (items : Array Value) :
    Meets (Builtin.«enumerate.__new__» ⟨[.type "enumerate", .ref l], []⟩) (fun _ R s => s.heap.IsTuple l items ∧
      R (.ok (.ret (.ref (s.heap.push { cls := .type "tuple_iterator", data := .fields #[.ref l, .int 0 0] }).objs.size)))
        { s with heap := (s.heap.push { cls := .type "tuple_iterator", data := .fields #[.ref l, .int 0 0] }).push { cls := .type "enumerate", data := .fields #[.none, .bool false, .ref s.heap.objs.size, rawInt 0, .none, .none] } }) :=
  .of_wp fun prog w A R s h => by
    obtain ⟨hp, g, d, tk, os⟩ := s
    obtain ⟨hl, h⟩ := h
    have hsub := sub_enumerate
    have hL : Heap.IsTuple (Shared.heap ⟨hp, g, d, tk, os⟩) l items := hl
    obtain ⟨⟨c, dct, dt, sl⟩, hl, hc, n, hd⟩ := hl
    replace hc : c = .type "tuple" := hc
    replace hd : dt = .seq items n := hd
    subst hc hd
    wp_walk using AutoSeq1.wpAny_loadPart' hl
    refine wpAny_stack_any fun st => wpAny_pure ?_
    split
    · rename_i c _ _ _ _ _
      cases (c == Value.type "enumerate")
      · wp_walk using AutoSeq1.wpAny_loadPart' hl, wpAny_pyIter_tuple hL
        exact ⟨_, rfl, h⟩
      · wp_walk using AutoSeq1.wpAny_loadPart' hl, wpAny_pyIter_tuple hL
        exact ⟨_, rfl, h⟩
    · wp_walk using AutoSeq1.wpAny_loadPart' hl, wpAny_pyIter_tuple hL
      exact ⟨_, rfl, h⟩
theorem call_enumT {prog : Program} {w : World} {A : Around} {E : Value → Shared → Prop} {s : Shared} {l : Addr} {items : Array Value} {Q : Value → Shared → Prop} (hL : s.heap.IsTuple l items)
    (h : ∀ h', IsEnum h' (s.heap.objs.size + 1) s.heap.objs.size 0 .none → h'.IsTupleIter s.heap.objs.size l 0 → h'.objs.size = s.heap.objs.size + 2 →
      (∀ b o, s.heap.get? b = some o → h'.get? b = some o) → Q (.ref (s.heap.objs.size + 1)) { s with heap := h' }) :
    wpAny (model prog w) A (call (.type "enumerate") [.ref l]) Q E s := by
  refine callType_new F.called_enumerate (by decide) (F.typeCall_enumerate_1 _) (F.newCall_enumerate_1 _) (fun obj => F.args_object_init_2 obj _) F.entry_enumerate_new
    (meets_enumT l items) ⟨hL, ?_⟩
  have hz : (s.heap.push { cls := .type "tuple_iterator", data := .fields #[.ref l, .int 0 0] }).objs.size = s.heap.objs.size + 1 := Heap.size_push ..
  show _ ∧ _
  rw [hz]
  have he : IsEnum ((s.heap.push { cls := .type "tuple_iterator", data := .fields #[.ref l, .int 0 0] }).push
      { cls := .type "enumerate", data := .fields #[.none, .bool false, .ref s.heap.objs.size, rawInt 0, .none, .none] }) (s.heap.objs.size + 1) s.heap.objs.size 0 .none := by
    have := Heap.get?_push_size (s.heap.push { cls := .type "tuple_iterator", data := .fields #[.ref l, .int 0 0] })
      (o := { cls := .type "enumerate", data := .fields #[.none, .bool false, .ref s.heap.objs.size, rawInt 0, .none, .none] }) rfl
    rw [hz] at this; exact this
  refine ⟨⟨_, he, rfl⟩, h _ he ⟨_, Heap.get?_push_of_some _ (Heap.get?_push_size _ rfl), rfl, rfl⟩ (by rw [Heap.size_push, hz]) fun b o x => Heap.get?_push_of_some _ (Heap.get?_push_of_some _ x)⟩
def iEnumT (K : PySem.W.Frag) (ta : TA) : TI := fun σ H R => ta σ H fun vs H1 => ∃ a xs, vs = [.ref a] ∧ SqT K H1 a xs ∧ R (IteT K a) H1
theorem pi_enumT {X : Cx} {e : Expr} {ta : TA} {p pos tpos : Pos} {elts : List Expr} {kk : Nat} (hg : Gl X "enumerate") (hm : X.mg "enumerate" = none) (ha : PA X [e] ta) (hs : starEach [e] X.env = [(false, eval e X.env)] := by rfl) :
    PI X (.Tuple elts kk tpos) (.Call (.Name "enumerate" p) [e] [] pos) (iEnumT X.K ta) := by
  refine ⟨fun pins s σ H R I h => ?_⟩
  refine Call_ (ld_blt I hg hm PyProof.Rows.boot_enumerate (PyProof.Rows.callWith_type1 (thn (ha.run pos pins s σ H _ I h) fun us s1 ⟨vs, H1, I1, r1, q1⟩ => ?_) hs rfl))
  obtain ⟨a, xs, ex, hq, q⟩ := q1
  subst ex
  cases r1 with
  | cons r rr =>
    cases rr
    cases r
    obtain ⟨its, rv, p', _⟩ := I1.tuple hq
    obtain ⟨o2, ho2, _⟩ := id p'
    have blt : a < s1.heap.objs.size := Heap.lt_size ho2
    refine call_enumT (items := its.toArray) p' fun h' he hit hsz hk => wpAny_pyIter_enum he ?_
    have I2 : Inv X pins σ H1 { s1 with heap := h' } := I1.kept (t' := s1.toks) hk
    refine ⟨s1.heap.objs.size + 1, [s1.heap.objs.size + 1, s1.heap.objs.size], _, _, H1, rfl, I2, turn_enumT a (s1.heap.objs.size + 1) s1.heap.objs.size (Nat.ne_of_lt blt) (Nat.succ_ne_self _) (Nat.ne_of_gt (Nat.lt_succ_of_lt blt)), ⟨⟨.none, he⟩, hit⟩, fun b hb => ?_, q⟩
    have e' : b = s1.heap.objs.size + 1 ∨ b = s1.heap.objs.size := by simpa using hb
    have hle : s1.heap.objs.size ≤ b := by
      rcases e' with z | z
      · rw [z]; exact Nat.le_add_right _ _
      · rw [z]; exact Nat.le_refl _
    exact I1.fpOk hle (I1.hok.fresh hle)
section
variable {p : Pr} {W : WX} {X : Cx} {G : List D} {cf : Nat → List D → C} {tg : Expr}
theorem walk_enumT {K : PySem.W.Frag} {a : Addr} {xs : List V} : Walk (IteT K a) xs.length (fun H => SqT K H a xs) (YPair (fun i => some (.int (i : Nat))) (fun i => xs[i]?)) := by
  refine ⟨fun i _ hi q => ⟨xs, xs[i], q, by simp [hi]⟩, fun _ q => ⟨xs, q, rfl⟩, fun i H v H' _ q y => ?_⟩
  obtain ⟨T, x, h1, h2, h3, h4⟩ := y
  exact ⟨T, .int (i : Nat), x, h1, h2, h3, rfl, h4 xs q⟩
theorem enum_get {xs : List D} {i : Nat} {d : D} (h : xs[i]? = some d) : (xs.zipIdx.map fun p => D.tup [.int p.2, p.1])[i]? = some (.tup [.int (i : Nat), d]) := by
  rw [List.getElem?_map, List.getElem?_zipIdx, h]
  simp
theorem jok_enum {J : L2.It} {Gd : Hp → Prop} {xs : List D} {us : List V} {H1 : Hp} {Wr : Addr → Prop} (w : Walk J us.length Gd (YPair (fun i => some (.int (i : Nat))) (fun i => us[i]?))) (ra : RepA p.K p.cl H1 (p.O Wr) us xs)
    (hG : ∀ H2 W2, FW p H1 Wr H2 W2 → Gd H2) : JOk p J (xs.zipIdx.map fun p => .tup [.int p.2, p.1]) H1 Wr := by
  refine ⟨_, Gd, _, by rw [List.length_map, List.length_zipIdx, ra.length], w, fun H2 W2 f dm => ⟨hG H2 W2 f, fun i x H3 y => ?_⟩⟩
  obtain ⟨T, u, v, e1, e2, e3, e4, e5⟩ := y
  cases e4
  subst e1 e3
  obtain ⟨d, f1, g1⟩ := ra.get e5
  have s := same_upd (o := .tup [.int (i : Nat), v]) e2
  refine ⟨_, enum_get f1, s, .tup (.inl upd_same) (nodom dm e2) ?_⟩
  exact .cons (.int _) (.cons ((g1.fw f).same s) .nil)
theorem si_enum (hK : X.K = p.K) {a : Ex} {xa : Expr} {p1 pos tpos : Pos} {elts : List Expr} {kk : Nat} (hg : Gl X "enumerate") (hm : X.mg "enumerate" = none) (ha : SE p W X G cf a xa) (na : isBor a = none)
    (hs : starEach [xa] X.env = [(false, eval xa X.env)]) : SI p W X G cf (.enum a) (.Tuple elts kk tpos) (.Call (.Name "enumerate" p1) [xa] [] pos) := fun ρ => by
  have pa := ha ρ
  simp only [evI]
  have mkL := fun (t : TE) (h : PE X xa t) => pi_enum (tpos := tpos) (elts := elts) (kk := kk) (p := p1) (pos := pos) hg hm (pa_cons h pa_nil hs) hs
  have mkT := fun (t : TE) (h : PE X xa t) => pi_enumT (tpos := tpos) (elts := elts) (kk := kk) (p := p1) (pos := pos) hg hm (pa_cons h pa_nil hs) hs
  cases ea : evE G cf a ρ with
  | no => exact pi_no
  | ex c fs ρ1 => rw [ea] at pa; exact pi_imp (mkL _ pa) fun σ H R h => h
  | ok d ρ1 =>
    rw [ea] at pa
    simp only [R.bind, fx_clean na]
    cases d with
    | tup xs =>
      refine pi_imp (mkT _ pa) fun σ H R' h => ?_
      obtain ⟨Wr, r, k⟩ := h
      refine ⟨Wr, r, fun v H1 r1 f1 w1 => ?_⟩
      have w := w1.rep na
      have tq : ∀ {v : V} {zs : List D}, p.Rep H1 Wr v (.tup zs) → ∃ a vs, v = .ref a ∧ RepA p.K p.cl H1 (p.O Wr) vs zs ∧ ∀ H3 W3, FW p H1 Wr H3 W3 → SqT X.K H3 a vs := fun {v zs} w => by
        cases w with
        | tup eo no q =>
          refine ⟨_, _, rfl, q, fun H3 W3 f => ?_⟩
          rcases eo with z | ⟨o, z⟩
          · exact .inl (.inl (f.fr _ _ no z))
          · exact .inl (.inr ⟨o, f.fr _ _ no z⟩)
        | tupK eo q =>
          rw [← hK] at eo
          exact ⟨_, _, rfl, q, fun H3 W3 f => eo.seq⟩
      obtain ⟨a1, us, rfl, qa, ga⟩ := tq w
      exact ⟨_, _, rfl, ga H1 Wr FW.refl, k _ H1 r1 f1 (jok_enum walk_enumT qa fun H3 W3 f => ga H3 W3 f)⟩
    | lst xs =>
      refine pi_imp (mkL _ pa) fun σ H R' h => ?_
      obtain ⟨Wr, r, k⟩ := h
      refine ⟨Wr, r, fun v H1 r1 f1 w1 => ?_⟩
      have w := w1.rep na
      cases w with
      | lst ea na qa =>
        exact ⟨_, _, rfl, SqL.of ea, k _ H1 r1 f1 (jok_enum walk_enum qa fun H3 W3 f => SqL.of (f.fr _ _ na ea))⟩
    | _ => exact pi_no
end
end PD
end

section
set_option Elab.async false
set_option linter.all false
set_option maxRecDepth 100000
set_option maxHeartbeats 1000000
/-! PDS: sets made of a list of texts, sorted -/
namespace PD
open PySem PySem.Spec PyProof.Rows L2
/-- a set object whose entries, in whatever order, keep Pr; it can be walked -/
def SetP (w : World) (h : Heap) (a : Addr) (Pr : List (Int × Value) → Prop) : Prop :=
  ∃ o es ep t, h.get? a = some o ∧ o.ExactSet ∧ o.data = .set es ep t ∧ Pr es.toList ∧ es.size < scanBound ∧ t.fits es.size = true ∧ Ris t.place.toList ∧ (w.params.followText "set-order" = true ∨ t.led = true)
def PermC (Pr : List (Int × Value) → Prop) : Prop := ∀ l l', l'.Perm l → Pr l → Pr l'
section
variable {P : Program} {w : World} {A : Around} {E : Value → Shared → Prop} {s : Shared} {a : Addr} {Pr Pr' : List (Int × Value) → Prop}
theorem SetP.at {h h' : Heap} (R : SetP w h a Pr) (k : ∀ o, h.get? a = some o → h'.get? a = some o) : SetP w h' a Pr := by
  obtain ⟨o, es, ep, t, ho, r⟩ := R
  exact ⟨o, es, ep, t, k o ho, r⟩
theorem setP_tail {g : Bool → Sem Unit} (pc : PermC Pr) (hg : ∀ (b : Bool) (s1 : Shared) (Q' : Unit → Shared → Prop), Q' () s1 → wpAny (model P w) A (g b) Q' E s1)
    {o : Obj} {es es1 : Array (Int × Value)} {ep : Nat} {t t2 : SetTable} (ho : s.heap.get? a = some o) (hex : o.ExactSet) (hd : o.data = .set es ep t) (g1 : Pr es1.toList)
    (hb1 : es1.size < scanBound) (hf2 : t2.fits es1.size = true) (hr : Ris t2.place.toList) (hl : w.params.followText "set-order" = true ∨ t2.led = true) {dm : Bool} {R : Option Bool → Shared → Prop}
    (hR : ∀ h', Heap.SameBut a s.heap h' → SetP w h' a Pr → R (some true) { s with heap := h' }) :
    wpAny (model P w) A (do
        storeSet a es1 t2
        if (!dm && t2.tooFull) = true then do
            g (relayAll t2 es1 (SetTable.grown es1.size)).2.2
            storeSet a (relayAll t2 es1 (SetTable.grown es1.size)).1 (relayAll t2 es1 (SetTable.grown es1.size)).2.1
            pure (some true)
          else pure (some true)) R E s := by
  refine wpAny_bind (wpAny_storeSet_of ho hd ?_ (fits_of_scanBound hb1))
  have b1 := store_at (es' := es1) (t' := t2) ho hd
  have c1 := Heap.SameBut.update s.heap a (Obj.putSet es1 t2)
  split
  · have pm := relayAll_perm t2 es1 (SetTable.grown es1.size)
    have q1 := relayAll_fits t2 es1 (SetTable.grown es1.size)
    have q2 := relayAll_ris t2 es1 (SetTable.grown es1.size)
    have q3 := relayAll_led t2 es1 (SetTable.grown es1.size)
    generalize relayAll t2 es1 (SetTable.grown es1.size) = Z at pm q1 q2 q3 ⊢
    obtain ⟨es2, t3, gave⟩ := Z
    dsimp only at pm q1 q2 q3 ⊢
    have z1 : es2.size = es1.size := by rw [← Array.length_toList, pm.length_eq, Array.length_toList]
    have z2 : es2.size < scanBound := by omega
    refine wpAny_bind (hg _ _ _ ?_)
    refine wpAny_bind (wpAny_storeSet_of b1 rfl ?_ (fits_of_scanBound z2))
    have b2 := store_at (es' := es2) (t' := t3) b1 rfl
    refine wpAny_pure (hR _ (c1.trans (Heap.SameBut.update _ a _)) ⟨_, es2, _, t3, b2, hex, rfl, pc _ _ pm g1, z2, q1, q2, hl.imp id fun z => by rw [q3]; exact z⟩)
  · exact wpAny_pure (hR _ c1 ⟨_, es1, _, t2, b1, hex, rfl, g1, hb1, hf2, hr, hl⟩)
theorem setP_add {K : Type} [DecidableEq K] {knd : PySem.KeyKind P w K} {k : K} {v : Value} {Q : Bool → Shared → Prop} (hkey : knd.is k v = true) (hsc : v.scannable = true) (hel : ∀ l, Pr l → ElemsOf knd l) (R : SetP w s.heap a Pr)
    (room : ∀ l, Pr l → l.length + 1 < scanBound) (pc' : PermC Pr') (yes : ∀ l e, Pr l → e ∈ l → knd.is k e.2 = true → Pr' l) (no : ∀ l, Pr l → (∀ e ∈ l, knd.is k e.2 = false) → Pr' ((knd.hash k, v) :: l))
    (hQ : ∀ b h', Heap.SameBut a s.heap h' → SetP w h' a Pr' → Q b { s with heap := h' }) :
    wpAny (model P w) A (setAddHashed a v (knd.hash k)) Q E s := by
  obtain ⟨o, es, ep, t, ho, hex, hd, g, hb, hf, hr, hl⟩ := R
  have el := hel _ g
  unfold setAddHashed setAddHashedIn
  refine wpAny_holding (wpAny_bind (wpAny_setState_of ho hd hf ?_))
  dsimp only
  rw [byScan_of hsc hb el]
  simp only [↓reduceIte]
  unfold setAddByScan
  refine wpAny_bind (wpAny_bind (wpAny_rule (wpAny_bind (wpAny_setScan_of hkey ho hd hf el ?_))))
  cases hfi : List.findIdx? (fun e => knd.is k e.2) es.toList with
  | some j =>
    dsimp only
    obtain ⟨hj, pj, _⟩ := List.findIdx?_eq_some_iff_getElem.mp hfi
    exact wpAny_pure (wpAny_pure (hQ _ s.heap (Heap.SameBut.refl a s.heap) ⟨o, es, ep, t, ho, hex, hd, yes _ _ g (List.getElem_mem hj) pj, hb, hf, hr, hl⟩))
  | none =>
    dsimp only
    have nk : ∀ e ∈ es.toList, knd.is k e.2 = false := fun e he => List.findIdx?_eq_none_iff.mp hfi e he
    have hgw : ∀ (b : Bool) {s1 : Shared} {Q' : Unit → Shared → Prop}, Q' () s1 → wpAny (model P w) A (match b with | true => rule "set.scan.the-table-gave-way" | false => pure ()) Q' E s1 := fun b s1 Q' q => by
      cases b
      · exact wpAny_pure q
      · exact wpAny_rule q
    have pm := layNew_perm t es (knd.hash k) v
    have q1 := layNew_fits t es (knd.hash k) v
    have q2 := layNew_ris t es (knd.hash k) v hr
    have q3 := layNew_led t es (knd.hash k) v
    generalize layNew t es (knd.hash k) v = Z at pm q1 q2 q3 ⊢
    obtain ⟨es1, t1, dm, gave⟩ := Z
    dsimp only at pm q1 q2 q3 ⊢
    rw [Array.toList_push] at pm
    have pp : es1.toList.Perm ((knd.hash k, v) :: es.toList) := pm.trans (List.perm_append_singleton _ _)
    have g1 : Pr' es1.toList := pc' _ _ pp (no _ g nk)
    have z1 : es1.size < scanBound := by
      have := room _ g
      rw [← Array.length_toList, pp.length_eq, List.length_cons]
      exact this
    have ld : w.params.followText "set-order" = true ∨ t1.led = true := hl.imp id fun z => by rw [q3]; exact z
    refine wpAny_bind (hgw _ ?_)
    split
    · refine wpAny_bind ?_
      rw [hashByValue_scannable 8 hsc]
      refine wpAny_pure ?_
      refine setP_tail pc' ?_ ho hex hd g1 z1 ?_ ?_ ?_ ?_
      · intro b s1 Q' q
        cases b
        · exact wpAny_pure q
        · exact wpAny_rule q
      · first | (split <;> first | exact q1 | exact SetTable.fits_plain_off q1) | exact q1
      · first | (split <;> exact q2) | exact q2
      · first | (split <;> exact ld) | exact ld
      · intro h' sb r
        dsimp only
        exact wpAny_pure (hQ _ h' sb r)
    · refine wpAny_bind (wpAny_pure ?_)
      simp only [↓reduceIte]
      refine setP_tail pc' ?_ ho hex hd g1 z1 q1 q2 ld ?_
      · intro b s1 Q' q
        cases b
        · exact wpAny_pure q
        · exact wpAny_rule q
      · intro h' sb r
        dsimp only
        exact wpAny_pure (hQ _ h' sb r)
end
/-! ### of texts -/
theorem dedS_snoc (xs : List Str) (x : Str) : dedS (xs ++ [x]) = hasS x (dedS xs) := by
  unfold dedS
  rw [List.foldl_append]; rfl
theorem hasS_nodup {x : Str} {L : List Str} (h : L.Nodup) : (hasS x L).Nodup := by
  unfold hasS
  split
  · exact h
  · rename_i n
    exact List.nodup_append.mpr ⟨h, by simp, fun a ha b hb => by
      rw [List.mem_singleton] at hb
      exact fun e => n (by rw [← hb, ← e]; exact ha)⟩
theorem dedS_nodup (xs : List Str) : (dedS xs).Nodup := by
  have go : ∀ (xs L : List Str), L.Nodup → (xs.foldl (fun L x => hasS x L) L).Nodup := by
    intro xs
    induction xs with
    | nil => exact fun L h => h
    | cons x xs ih => exact fun L h => ih _ (hasS_nodup h)
  exact go xs [] List.nodup_nil
theorem mem_hasS {x y : Str} {L : List Str} : y ∈ hasS x L ↔ y ∈ L ∨ y = x := by
  unfold hasS
  split
  · rename_i h
    exact ⟨.inl, fun z => z.elim id fun e => e ▸ h⟩
  · rw [List.mem_append, List.mem_singleton]
theorem mem_dedS {y : Str} {xs : List Str} : y ∈ dedS xs ↔ y ∈ xs := by
  have go : ∀ (xs L : List Str), y ∈ (xs.foldl (fun L x => hasS x L) L) ↔ y ∈ L ∨ y ∈ xs := by
    intro xs
    induction xs with
    | nil => intro L; simp
    | cons x xs ih =>
      intro L
      rw [List.foldl_cons, ih, mem_hasS, List.mem_cons]
      constructor
      · rintro ((h | h) | h)
        · exact .inl h
        · exact .inr (.inl h)
        · exact .inr (.inr h)
      · rintro (h | h | h)
        · exact .inl (.inl h)
        · exact .inl (.inr h)
        · exact .inr h
  have := go xs []
  unfold dedS
  simpa using this
theorem dedS_len (xs : List Str) : (dedS xs).length ≤ xs.length := by
  have go : ∀ (xs L : List Str), (xs.foldl (fun L x => hasS x L) L).length ≤ L.length + xs.length := by
    intro xs
    induction xs with
    | nil => intro L; simp
    | cons x xs ih =>
      intro L
      rw [List.foldl_cons]
      have h1 := ih (hasS x L)
      have h2 : (hasS x L).length ≤ L.length + 1 := by
        unfold hasS
        split
        · omega
        · simp
      rw [List.length_cons]
      omega
  have := go xs []
  unfold dedS
  simpa using this
/-- the entries are the texts of L, each with its hash -/
def PrS (w : World) (L : List Str) (l : List (Int × Value)) : Prop := (∀ e ∈ l, ∃ x t, e.2 = Value.str x t ∧ e.1 = hashStr w x) ∧ (l.map fun e => PyProof.Rows.strOf e.2).Perm L
section
variable {P : Program} {w : World} {A : Around} {E : Value → Shared → Prop} {s : Shared} {a : Addr}
theorem prS_perm {L : List Str} : PermC (PrS w L) := fun l l' p h => ⟨fun e he => h.1 e (p.mem_iff.mp he), (p.map _).trans h.2⟩
theorem prS_elems {L : List Str} {l : List (Int × Value)} (h : PrS w L l) : ElemsOf (PySem.strKind P w) l := fun e he => by
  obtain ⟨x, t, h1, h2⟩ := h.1 e he
  exact ⟨⟨x, by rw [h1]; exact strKind_is P w x t, h2⟩, by rw [h1] <;> rfl⟩
theorem prS_is {e : Int × Value} {x k : Str} {t : Tok} (h : e.2 = Value.str x t) : (PySem.strKind P w).is k e.2 = decide (x = k) := by
  rw [h]
  show Value.isStrOf k (.str x t) = _
  cases hh : Value.isStrOf k (.str x t) with
  | true =>
    obtain ⟨u, hu⟩ := Value.isStrOf_shape hh
    cases hu
    simp
  | false =>
    refine (decide_eq_false fun e => ?_).symm
    subst e
    have := strKind_is P w x t
    have : Value.isStrOf x (.str x t) = true := this
    rw [hh] at this
    cases this
theorem prS_add {L : List Str} {x : Str} {t : Tok} {Q : Bool → Shared → Prop} (R : SetP w s.heap a (PrS w L)) (hn : L.length + 1 < scanBound)
    (hQ : ∀ b h', Heap.SameBut a s.heap h' → SetP w h' a (PrS w (hasS x L)) → Q b { s with heap := h' }) :
    wpAny (model P w) A (setAddHashed a (.str x t) (hashStr w x)) Q E s := by
  have ln : ∀ l, PrS w L l → l.length = L.length := fun l h => by rw [← h.2.length_eq, List.length_map]
  refine setP_add (knd := PySem.strKind P w) (k := x) (strKind_is P w x t) rfl (fun l h => prS_elems h) R (fun l h => by rw [ln l h]; exact hn) prS_perm (fun l e h he hi => ?_) (fun l h no => ?_) hQ
  · obtain ⟨y, u, h1, h2⟩ := h.1 e he
    rw [prS_is h1] at hi
    have exy := of_decide_eq_true hi
    have hm : x ∈ L := h.2.mem_iff.mp (List.mem_map.mpr ⟨e, he, by rw [h1]; exact exy⟩)
    unfold hasS
    rw [if_pos hm]
    exact h
  · have hm : x ∉ L := fun hm => by
      obtain ⟨e, he, q⟩ := List.mem_map.mp (h.2.mem_iff.mpr hm)
      obtain ⟨y, u, h1, h2⟩ := h.1 e he
      have n := no e he
      rw [prS_is h1] at n
      rw [h1] at q
      exact of_decide_eq_false n q
    unfold hasS
    rw [if_neg hm]
    refine ⟨fun e he => ?_, ?_⟩
    · rcases List.mem_cons.mp he with z | z
      · rw [z]; exact ⟨x, t, rfl, rfl⟩
      · exact h.1 e z
    · rw [List.map_cons]
      exact (h.2.cons x).trans (List.perm_append_singleton x L).symm
end
section
variable {prog : Program} {w : World} {A : Around} {R : Result → Shared → Prop} {I : Addr} {fp wr : List Addr} {G : Array GenState → Array GenState → Prop} {n : Nat} {P : Nat → Value → Prop} {St : Nat → Shared → Prop}
theorem take_snoc {xs : List Str} {i : Nat} {x : Str} (h : xs[i]? = some x) : xs.take (i + 1) = xs.take i ++ [x] := by
  rw [List.take_succ, h]; rfl
/-- the loop of update, over texts -/
theorem set_loop (W : WalksS prog w A.in1 I fp wr G n P St) (S : Addr) (hSf : S ∉ fp) (xs : List Str) (hsz : xs.length = n) (hn1 : n + 1 < scanBound) (hval : ∀ i v, P i v → ∃ x t, xs[i]? = some x ∧ v = .str x t) :
    ∀ (k i : Nat) (s : Shared), n - i = k → i ≤ n → St i s → SetP w s.heap S (PrS w (dedS (xs.take i))) →
      (∀ s', Moved (S :: wr) G s s' → SetP w s'.heap S (PrS w (dedS xs)) → R (.ok (.ret .none)) s') → codeAny (model prog w) A (.builtin "set.update.loop" ⟨[.ref S, .ref I], []⟩) R s := by
  have nw : S ∉ wr := fun h => hSf (W.sub _ h)
  have more : ∀ b ∈ wr, b ∈ S :: wr := fun b hb => List.mem_cons_of_mem _ hb
  intro k
  induction k with
  | zero =>
    intro i s hk hi hst hS hR
    have e : i = n := by omega
    subst e
    rw [List.take_of_length_le (by omega)] at hS
    refine codeAny_builtin PyProof.Rows.F.entry_set_update_loop ?_
    rw [Around.under_plainId PyProof.Rows.F.plain_set_update_loop _]
    show wpAny _ A.in1 (pyNext (.ref I) >>= _) _ _ s
    refine wpAny_bind (W.done s _ _ hst fun s' hm => ?_)
    show wpAny _ A.in1 (ret Value.none) _ _ s'
    exact wpAny_pure (hR s' (hm.mono more) (hS.at fun o q => hm.heap S o nw q))
  | succ k ih =>
    intro i s hk hi hst hS hR
    have hlt : i < n := by omega
    refine codeAny_builtin PyProof.Rows.F.entry_set_update_loop ?_
    rw [Around.under_plainId PyProof.Rows.F.plain_set_update_loop _]
    show wpAny _ A.in1 (pyNext (.ref I) >>= _) _ _ s
    refine wpAny_bind (W.item i s _ _ hlt hst fun v s' hP hst' hm => ?_)
    obtain ⟨x, t, hx, rfl⟩ := hval i v hP
    have hS2 : SetP w s'.heap S (PrS w (dedS (xs.take i))) := hS.at fun o q => hm.heap S o nw q
    show wpAny _ A.in1 (holding [Value.str x t] (setAdd S (.str x t)) >>= _) _ _ s'
    refine wpAny_bind (wpAny_holding ?_)
    unfold setAdd
    refine wpAny_holding ?_
    refine wpAny_bind ((PySem.strKind prog w).pyHash (k := x) (strKind_is _ _ _ _) ?_)
    have hl : (dedS (xs.take i)).length + 1 < scanBound := by
      have := dedS_len (xs.take i)
      rw [List.length_take] at this
      omega
    refine prS_add (P := prog) (s := { s' with toks := s'.toks + 1 }) hS2 hl fun b h' sb hS3 => ?_
    rw [← dedS_snoc, ← take_snoc hx] at hS3
    refine wpAny_pure ⟨plainId_quiet PyProof.Rows.F.plain_set_update_loop _, ih (i + 1) _ (by omega) hlt (W.frame _ s' _ _ hst' (Nat.le_succ _) fun c hc o e => ?_) hS3 fun s2 hm2 hS4 => ?_⟩
    · exact (sb.2 c (fun h => hSf (h ▸ hc))).trans e
    · refine hR s2 (Moved.trans W.gtrans ((hm.mono more).then_heap (Nat.le_succ _) fun c o hc e => ?_) hm2) hS4
      exact (sb.2 c (fun h => hc (by rw [h]; exact List.mem_cons_self))).trans e
end
section
variable {prog : Program} {w : World} {A : Around} {E : Value → Shared → Prop} {s : Shared}
def newSet (w : World) : Obj := { cls := .type "set", dict := none, data := .set #[] 0 (.fresh 0 0 (!w.params.followText "set-order")) }
theorem setP_fresh {h' : Heap} {a : Addr} (w : World) (e : h'.get? a = some (newSet w)) : SetP w h' a (PrS w []) :=
  ⟨_, #[], 0, _, e, ⟨rfl, rfl, rfl⟩, rfl, ⟨(fun e he => by simp at he), List.Perm.refl _⟩, (by decide), (by rfl), List.Pairwise.nil, by
    show _ ∨ (!w.params.followText "set-order") = true
    cases w.params.followText "set-order"
    · exact .inr rfl
    · exact .inl rfl⟩
theorem code_set_one (a : Value) {Q1 : Value → Shared → Prop} (h : Q1 (.ref s.heap.objs.size) { s with heap := s.heap.push (newSet w) }) :
    codeAny (model prog w) A (.call (.builtin "set.__new__") ⟨[.type "set", a], []⟩) (wants Q1 E) s := by
  refine codeAny_of_tree ?_
  show wpAny _ A.in1 (do checkBuiltinCall "set.__new__" ⟨[.type "set", a], []⟩; again (.builtin "set.__new__" ⟨[.type "set", a], []⟩)) _ _ s
  refine wpAny_bind (wpAny_of_eq (F.newCall_set_1 a) (wpAny_pure ⟨plainId_quiet F.plain_set_new _, codeAny_builtin F.entry_set_new ?_⟩))
  rw [Around.under_plainId F.plain_set_new _]
  unfold Builtin.«set.__new__» Builtin.Frozenset.newClass
  have hsub := sub_set_self
  obtain ⟨hp, g, d, tk, os⟩ := s
  dsimp only
  wp_walk
  refine wpAny_askSetting (wpAny_pure ?_)
  dsimp only
  simp only [newObj]
  exact wpAny_bind (wpAny_alloc (wpAny_pure (wpAny_pure h)))
set_option maxHeartbeats 3200000 in
theorem call_set_texts {l : Addr} {items : Array Value} {xs : List Str} {Q : Value → Shared → Prop}
    (hh : A.handled = none) (hl : s.heap.IsList l items) (hi : PyProof.Rows.StrsAre items.toList xs) (hn1 : xs.length + 1 < scanBound)
    (h : ∀ (h' : Heap) (tk : Nat), SetP w h' s.heap.objs.size (PrS w (dedS xs)) → (∀ b o, s.heap.get? b = some o → h'.get? b = some o) → Q (.ref s.heap.objs.size) { s with heap := h', toks := tk }) :
    wpAny (model prog w) A (call (.type "set") [.ref l]) Q E s := by
  obtain ⟨c, tl, hmro⟩ := PySem.F.called_set.mro
  have hmade := PySem.F.called_set.made
  have hsub := PySem.F.called_set.sub
  have h1 := PySem.F.called_set.notType
  have h2 := PySem.F.called_set.canCreate
  have hct := PySem.F.typeCall_set_1 (.ref l)
  refine wpAny_call (codeAny_of_tree ?_)
  show wpAny _ _ (callAny (.type "set") _) _ _ _
  refine wpAny_pure ⟨Code.quiet_builtin _ (by decide +kernel), codeAny_builtin PySem.F.entry_type_call ?_⟩
  rw [Around.under_plain (weight_type_call_type "set" [.ref l] []) rfl]
  repeat (any_goals (first | assumption | wp_step))
  refine codeAny_mono (code_set_one (.ref l) (E := E) (Q1 := fun obj s1 => obj = .ref s.heap.objs.size ∧ s1 = { s with heap := s.heap.push (newSet w) }) ⟨rfl, rfl⟩) fun r s1 hr => ?_
  cases r with
  | error e => exact hr
  | ok fl =>
    cases fl with
    | ret obj =>
      obtain ⟨rfl, rfl⟩ := hr
      have hS : (s.heap.push (newSet w)).get? s.heap.objs.size = some (newSet w) := Heap.get?_push_size _ rfl
      have hT : Shared.TypeIs { s with heap := s.heap.push (newSet w) } (.ref s.heap.objs.size) "set" := ⟨_, hS, rfl⟩
      have hli := PySem.F.called_set.init.lookup
      have hbi := PySem.F.called_set.init.bind (.ref s.heap.objs.size)
      repeat (any_goals (first | assumption | wp_step))
      refine codeAny_mono (codeAny_call_builtin (R := wants (fun r s2 => r = .none ∧ ∃ h' tk, s2 = { s with heap := h', toks := tk } ∧ SetP w h' s.heap.objs.size (PrS w (dedS xs)) ∧ (∀ b o, s.heap.get? b = some o → h'.get? b = some o)) E) PySem.F.called_set.init.plain PySem.F.entry_set_init (check_set_init_1 hT ?_)) fun r2 s2 hr2 => ?_
      · obtain ⟨⟨ocls, odict, odata, oslots⟩, hol, hcl, nl, hdl⟩ := id hl
        simp only at hcl hdl
        subst hcl
        subst hdl
        have hol' : (s.heap.push (newSet w)).get? l = some { cls := .type "list", dict := odict, data := .seq items nl, slots := oslots } := Heap.get?_push_of_some _ hol
        have e1 := PySem.F.sub_list_set
        have e2 := PySem.F.sub_list_frozenset
        have e3 : (Value.type "list" == Value.type "dict") = false := by decide
        have hl1 : (s.heap.push (newSet w)).IsList l items := ⟨_, hol', rfl, nl, rfl⟩
        unfold Builtin.«set.__init__» noKeywords Builtin.Frozenset.updateFrom
        generalize hPI : pyIter = PI
        wp_walk
        subst hPI
        refine wpAny_pyIter_list hl1 (wpAny_bind (wpAny_runValue ?_))
        have lt : l < s.heap.objs.size := Heap.lt_size hol
        have hh3 : A.in1.in1.in1.handled = none := by simp [hh]
        have szp : (s.heap.push (newSet w)).objs.size = s.heap.objs.size + 1 := Heap.size_push ..
        have ne1 : l ≠ (s.heap.push (newSet w)).objs.size := by rw [szp]; exact Nat.ne_of_lt (Nat.lt_succ_of_lt lt)
        have ne2 : s.heap.objs.size ∉ [(s.heap.push (newSet w)).objs.size, l] := by
          rw [szp]
          simp only [List.mem_cons, List.mem_singleton, List.not_mem_nil, or_false, not_or]
          exact ⟨Nat.ne_of_lt (Nat.lt_succ_self _), Nat.ne_of_gt lt⟩
        have sz : xs.length = items.size := by rw [← StrsAre.len_eq hi, Array.length_toList]
        have hval : ∀ (i : Nat) (v : Value), items[i]? = some v → ∃ x t, xs[i]? = some x ∧ v = .str x t := fun i v hv => by
          have hv' : items.toList[i]? = some v := by rw [Array.getElem?_toList]; exact hv
          obtain ⟨t, e⟩ := SS.strs_at hi i v hv'
          have hlt : i < xs.length := by rw [sz]; exact (Array.getElem?_eq_some_iff.mp hv).1
          refine ⟨xs[i], t, by simp [hlt], ?_⟩
          rw [e]
          simp [hlt]
        refine set_loop ((Walks.list hh3 _ l ne1 items).toS) s.heap.objs.size ne2 xs sz (by rw [← sz]; exact hn1) hval (items.size - 0) 0 _ (by omega) (Nat.zero_le _) ⟨⟨_, Heap.get?_push_size _ rfl, rfl, rfl⟩, (hl1.push _)⟩ ?h0 ?hR
        case h0 => exact setP_fresh w (Heap.get?_push_of_some _ hS)
        case hR =>
          intro s3 hm hS3
          obtain ⟨h', g', d', tk', os'⟩ := s3
          have eg : g' = s.gens := hm.gens
          have ed : d' = s.drawn := hm.drawn
          have eo : os' = s.os := hm.os
          subst eg
          subst ed
          subst eo
          show wpAny _ _ _ _ _ _
          refine wpAny_pure ?_
          show wpAny _ _ (ret Value.none) _ _ _
          refine wpAny_pure ⟨rfl, h', tk', rfl, hS3, fun b o e => ?_⟩
          have hb := Heap.lt_size e
          refine hm.heap b o ?_ (Heap.get?_push_of_some _ (Heap.get?_push_of_some _ e))
          simp only [List.mem_cons, List.mem_singleton, List.not_mem_nil, or_false, not_or]
          exact ⟨Nat.ne_of_lt hb, by rw [szp]; exact Nat.ne_of_lt (Nat.lt_succ_of_lt hb)⟩
      · cases r2 with
        | error e => exact hr2
        | ok fl2 =>
          cases fl2 with
          | ret r =>
            obtain ⟨rfl, h', tk, rfl, hS', hk'⟩ := hr2
            repeat (any_goals (first | assumption | wp_step))
            exact h _ _ hS' hk'
          | _ => exact hr2.elim
    | _ => exact hr.elim
end
theorem leS_trans (x y z : Str) (a : leS x y = true) (b : leS y z = true) : leS x z = true :=
  decide_eq_true (List.le_trans (of_decide_eq_true a) (of_decide_eq_true b))
theorem leS_total (x y : Str) : (leS x y || leS y x) = true := by
  unfold leS
  rcases List.le_total x.cps.toList y.cps.toList with h | h
  · rw [decide_eq_true h]; rfl
  · rw [decide_eq_true h, Bool.or_true]
theorem leS_anti {x y : Str} (a : leS x y = true) (b : leS y x = true) : x = y := PySem.W.str_of_cps (List.le_antisymm (of_decide_eq_true a) (of_decide_eq_true b))
theorem srtS_perm (xs : List Str) : (srtS xs).Perm xs := List.mergeSort_perm xs leS
theorem srtS_pair (xs : List Str) : (srtS xs).Pairwise fun a b => leS a b = true := List.pairwise_mergeSort leS_trans leS_total xs
theorem pair_unique : ∀ {l m : List Str}, l.Perm m → l.Pairwise (fun a b => leS a b = true) → m.Pairwise (fun a b => leS a b = true) → l = m
  | [], m, p, _, _ => (List.nil_perm.mp p).symm ▸ rfl
  | x :: l, [], p, _, _ => by cases List.perm_nil.mp p
  | x :: l, y :: m, p, hl, hm => by
    obtain ⟨h1, h2⟩ := List.pairwise_cons.mp hl
    obtain ⟨h3, h4⟩ := List.pairwise_cons.mp hm
    have e : x = y := by
      rcases List.mem_cons.mp (p.mem_iff.mp (List.mem_cons_self ..)) with z | z
      · exact z
      · rcases List.mem_cons.mp (p.mem_iff.mpr (List.mem_cons_self ..)) with w | w
        · exact w.symm
        · exact leS_anti (h1 y w) (h3 x z)
    subst e
    rw [pair_unique (List.perm_cons x |>.mp p) h2 h4]
theorem srtS_of {l m : List Str} (p : l.Perm m) (h : PyProof.Rows.sortedS l = true) : l = srtS m := by
  refine pair_unique (p.trans (srtS_perm m).symm) ?_ (srtS_pair m)
  have go : ∀ (l : List Str) (x : Str), PyProof.Rows.risingS x l = true → (x :: l).Pairwise fun a b => leS a b = true := by
    intro l
    induction l with
    | nil => exact fun x _ => List.pairwise_singleton ..
    | cons y l ih =>
      intro x h
      have h : (!ltCps y.cps.toList x.cps.toList && PyProof.Rows.risingS y l) = true := h
      rw [Bool.and_eq_true] at h
      have q := ih y h.2
      have xy : leS x y = true := by
        have h1 := h.1
        rw [PyProof.Rows.ltCps_eq] at h1
        have : ¬ y.cps.toList < x.cps.toList := by simpa using h1
        exact decide_eq_true (List.not_lt.mp this)
      refine List.pairwise_cons.mpr ⟨fun z hz => ?_, q⟩
      rcases List.mem_cons.mp hz with e | e
      · rw [e]; exact xy
      · exact leS_trans _ _ _ xy ((List.pairwise_cons.mp q).1 z e)
  cases l with
  | nil => exact List.Pairwise.nil
  | cons x l => exact go l x h
section
variable {prog : Program} {w : World} {A : Around} {E : Value → Shared → Prop} {s : Shared} {a : Addr}
theorem sorted_setS {L : List Str} {Q : Value → Shared → Prop} (R : SetP w s.heap a (PrS w L)) (hh : A.handled = none)
    (hQ : ∀ s' p (out : Array Value) (c : Nat), (∀ b o, s.heap.get? b = some o → s'.heap.get? b = some o) → s'.gens = s.gens → s'.os = s.os → s.heap.objs.size ≤ p →
      s'.heap.get? p = some (seqObj "list" out c) → StrsAre out.toList (srtS L) → Q (.ref p) s') : wpAny (model prog w) A (call (.builtin "sorted") [.ref a]) Q E s := by
  obtain ⟨o, es, ep, t, ho, hex, hd, g, hb, hf, hr, hl⟩ := R
  refine Calls.call_function_entry kind_sorted plain_sorted entry_sorted (args_sorted1 _) ?_
  unfold Builtin.«sorted»
  refine wpAny_bind (m := checkCount "sorted" 1 1 _) (wpAny_pure (wpAny_bind (collect_set (A := A.in1) hh ⟨o, ho, hex.1, hd⟩ hf hb hr hl fun s1 vs k1 hz g1 o1 pm => ?_)))
  have hI : StrsAre vs (vs.map strOf) := strsAre_map vs fun v hv => by
    obtain ⟨e, he, q⟩ := List.mem_map.mp (pm.mem_iff.mp hv)
    obtain ⟨x, t, h1, _⟩ := g.1 e he
    exact ⟨x, t, by rw [← q]; exact h1⟩
  have pk : (vs.map strOf).Perm L := by
    have q := pm.map strOf
    rw [List.map_map] at q
    exact q.trans g.2
  have hvl : vs.length ≤ sizeLine := by
    rw [pm.length_eq, List.length_map, Array.length_toList]
    exact fits_of_scanBound hb
  refine wpAny_bind (wpAny_newList ?_ hvl)
  have hoL : (s1.heap.push (seqObj "list" vs.toArray 0)).get? s1.heap.objs.size = some (seqObj "list" vs.toArray 0) := Heap.get?_push_size _ rfl
  refine wpAny_bind (wpAny_holding (wpAny_call_entry slot_list_sort ⟨_, hoL, rfl⟩ entry_list_sort (list_sort_treeKAny strKind_oneLt hoL hI.keysOf (fun v1 v2 rest e => keyKind_strs (by rw [← e]; exact hI)) hvl fun st' hp hs => ⟨_, rfl, ?_⟩) (args_list_sort _)))
  obtain ⟨ss, b1, b2, b3⟩ := sorted_out_str hI hp hs
  obtain ⟨c, hc⟩ := sortedHeap_at (vs := vs) (out := (arrOf st').map (·.2)) hoL
  rw [srtS_of (b2.trans pk) b3] at b1
  refine wpAny_pure ⟨_, rfl, hQ _ s1.heap.objs.size _ c (fun b u e => ?_) g1 o1 hz hc b1⟩
  have q := k1 b u e
  have lt := Heap.lt_size q
  show (sortedHeap (s1.heap.push (seqObj "list" vs.toArray 0)) s1.heap.objs.size vs _).get? b = some u
  rw [sortedHeap_old (Nat.ne_of_lt lt) (by rw [size_push']; exact Nat.lt_succ_of_lt lt)]
  exact Heap.get?_push_of_some _ q
end
end PD
end

section
set_option Elab.async false
set_option linter.all false
set_option maxRecDepth 100000
set_option maxHeartbeats 1000000
/-! PD14: comparisons as tests; shapes of expressions -/
namespace PD
open PySem PySem.Spec PyProof.Rows L2
section
variable {p : Pr} {W : WX} {X : Cx} {G : List D} {cf : Nat → List D → C}
/-- as a value and as a test -/
def PC2 (X : Cx) (x : Expr) (t : TE) : Prop := PE X x t ∧ PT X x (tTest t)
theorem pc_imp {x : Expr} {t t' : TE} (h : PC2 X x t) (i : ∀ σ H Q, t' σ H Q → t σ H Q) : PC2 X x t' := ⟨pe_imp h.1 i, pt_imp h.2 fun σ H Q q => i σ H _ q⟩
theorem pc_void {x : Expr} {t : TE} (i : ∀ σ H Q, ¬ t σ H Q) : PC2 X x t := ⟨pe_void i, pt_void fun σ H Q q => i σ H _ q⟩
variable (p W X G cf) in
def S2 (e : Ex) (x : Expr) : Prop := ∀ ρ, PC2 X x (tE p W e ρ (evE G cf e ρ))
theorem pc_no {x : Expr} {e : Ex} {ρ : Env} : PC2 X x (tE p W e ρ .no) := pc_void fun σ H Q h => by
  obtain ⟨Wr, _, h⟩ := h
  exact h
theorem S2.se {e : Ex} {x : Expr} (h : S2 p W X G cf e x) : SE p W X G cf e x := fun ρ => (h ρ).1
theorem S2.st {e : Ex} {x : Expr} (h : S2 p W X G cf e x) (n : isBor e = none) (hb : ∀ ρ d ρ1, evE G cf e ρ = .ok d ρ1 → ∃ b, d = .bl b) : ST p W X G cf e x := fun ρ => pt_imp (h ρ).2 fun σ H Q q => by
  obtain ⟨Wr, r, k⟩ := q
  refine ⟨Wr, r, ?_⟩
  unfold evT at k
  cases ea : evE G cf e ρ with
  | no => rw [ea] at k; exact k
  | ex c fs ρ1 => rw [ea] at k; exact k
  | ok d ρ1 =>
    rw [ea] at k
    obtain ⟨b, rfl⟩ := hb ρ d ρ1 ea
    simp only [R.bind, fx_clean n, truD, ofO] at k
    intro v H1 r1 f1 w1
    have w := w1.rep n
    cases w
    exact ⟨b, rfl, k H1 r1 f1⟩
theorem twoC {good : R2 → Prop} {x xa xb : Expr} {a b e0 : Ex} (mk : ∀ r ta tb, good r → PE X xa ta → PE X xb tb → PC2 X x (tOp r ta tb)) (g0 : good (fun _ _ _ _ => False)) (f : D → D → Option D) (ok : OkOp p.K p.cl good f)
    (ha : SE p W X G cf a xa) (hb : SE p W X G cf b xb) (n : isBor e0 = none) (ρ : Env) :
    PC2 X x (tE p W e0 ρ ((evE G cf a ρ).bind fun d ρ1 => (evE G cf b ρ1).bind fun e ρ2 => match fx a d ρ2, fx b e ρ2 with
      | some d', some e' => ofO (f d' e') ρ2
      | _, _ => .no)) := by
  have pa := ha ρ
  cases ea : evE G cf a ρ with
  | no => exact pc_no
  | ex c fs ρ1 =>
    rw [ea] at pa
    exact pc_imp (mk _ _ _ g0 pa (pe_void (t := fun _ _ _ => False) fun _ _ _ z => z)) fun σ H Q h => h
  | ok d ρ1 =>
    rw [ea] at pa
    have pb := hb ρ1
    cases eb : evE G cf b ρ1 with
    | no => simp only [R.bind, eb]; exact pc_no
    | ex c fs ρ2 =>
      rw [eb] at pb
      refine pc_imp (mk _ _ _ g0 pa pb) fun σ H Q h => ?_
      simp only [R.bind, eb] at h
      obtain ⟨Wr, r, k⟩ := h
      exact ⟨Wr, r, fun v H1 r1 f1 _ => ⟨Wr, r1, k.step f1⟩⟩
    | ok e ρ2 =>
      rw [eb] at pb
      simp only [R.bind, eb]
      cases e1 : fx a d ρ2 with
      | none => exact pc_no
      | some d' =>
        cases e2 : fx b e ρ2 with
        | none => exact pc_no
        | some e' =>
          cases e3 : f d' e' with
          | none => simp only [e3, ofO]; exact pc_no
          | some c =>
            obtain ⟨r, g, k⟩ := ok d' e' c e3
            refine pc_imp (mk r _ _ g pa pb) fun σ H Q h => ?_
            obtain ⟨Wr, rl, q⟩ := h
            refine ⟨Wr, rl, fun v H1 r1 f1 w1 => ⟨Wr, r1, fun u H2 r2 f2 w2 => ?_⟩⟩
            exact k v u H2 Q (p.O Wr) r2.dom (w1.at r2 f2 e1) (w2.at r2 Fr.refl e2) (fin_ok r2 ((q.step f1).step f2) e3 n)
theorem c_cmp (hK : X.K = p.K) (hu : X.A.units + 70 < cLine) {o : Cop} {a b : Ex} {xa xb : Expr} {pos : Pos} (ha : SE p W X G cf a xa) (hb : SE p W X G cf b xb) (hm : behindInMarks (copOf o) xb = false) :
    S2 p W X G cf (.cmp o a b) (.Compare xa [copOf o] [xb] pos) := fun ρ => by
  simp only [evE]
  exact twoC (good := fun r => OpR X (compareOp (copOf o)) r) (fun r ta tb g h1 h2 => ⟨pe_cmpR g h1 h2 hm, pt_cmpR g h1 h2 hm⟩) op_false (cmpD o) (hK ▸ ok_cmp (X := X) hu o) ha hb rfl ρ
theorem bl_cmp {o : Cop} {a b : Ex} (ρ : Env) (d : D) (ρ1 : Env) (h : evE G cf (.cmp o a b) ρ = .ok d ρ1) : ∃ k, d = .bl k := by
  simp only [evE] at h
  cases ea : evE G cf a ρ with
  | no => rw [ea] at h; cases h
  | ex c fs ρ2 => rw [ea] at h; cases h
  | ok x ρ2 =>
    rw [ea] at h
    simp only [R.bind] at h
    cases eb : evE G cf b ρ2 with
    | no => rw [eb] at h; cases h
    | ex c fs ρ3 => rw [eb] at h; cases h
    | ok y ρ3 =>
      rw [eb] at h
      simp only at h
      split at h
      · rename_i d' e' _ _
        cases e3 : cmpD o d' e' with
        | none => rw [e3] at h; cases h
        | some z =>
          rw [e3] at h
          cases h
          exact cmpD_bl e3
      · cases h
theorem t_cmp (hK : X.K = p.K) (hu : X.A.units + 70 < cLine) {o : Cop} {a b : Ex} {xa xb : Expr} {pos : Pos} (ha : SE p W X G cf a xa) (hb : SE p W X G cf b xb) (hm : behindInMarks (copOf o) xb = false) :
    ST p W X G cf (.cmp o a b) (.Compare xa [copOf o] [xb] pos) := (c_cmp hK hu ha hb hm).st rfl bl_cmp
theorem t_gin {g : Nat} {neg : Bool} {a : Ex} {xa : Expr} {x : Str} {kvs : List (D × D)} {d : Addr} {es : Array DictEntry} {n : Nat} {p1 pos : Pos} (gd : GDict X p.cl x kvs d es n) (hG : G[g]? = some (.dct false kvs)) (ha : SE p W X G cf a xa) (na : isBor a = none)
    (hm : behindInMarks (if neg then .NotIn else .In) (.Name x p1) = false) : ST p W X G cf (.gin g neg a) (.Compare xa [if neg then .NotIn else .In] [.Name x p1] pos) := fun ρ => by
  have pa := ha ρ
  have pg : PE X (.Name x p1) (tC (.ref d)) := pe_glob gd.hg gd.hm rfl gd.hd
  simp only [evT, evE, hG]
  cases ea : evE G cf a ρ with
  | no => exact pt_void fun σ H Q => tT_no
  | ex c fs ρ1 =>
    rw [ea] at pa
    exact pt_imp (pt_cmpR (op_false (X := X)) pa pg hm) fun σ H Q h => h
  | ok e ρ1 =>
    rw [ea] at pa
    simp only [R.bind]
    cases e with
    | str z =>
      simp only [fx, truD, ofO]
      obtain ⟨r, h1, h2⟩ := gd.get z
      have h3 : (dget kvs (.str z)).isSome = r.isSome := by
        cases q : dget kvs (.str z) with
        | none => rw [q] at h2; simp only at h2; rw [h2]; rfl
        | some c => rw [q] at h2; simp only at h2; obtain ⟨u, v, h2, _⟩ := h2; rw [h2]; rfl
      rw [h3]
      cases neg with
      | false =>
        refine pt_imp (pt_cmpR (op_in_kd gd.kd) pa pg hm) fun σ H Q h => ?_
        obtain ⟨Wr, rl, k⟩ := h
        refine ⟨Wr, rl, fun v H1 r1 f1 w1 => ?_⟩
        have w := w1.rep na
        cases w
        exact ⟨z, r, rfl, rfl, h1, r.isSome, rfl, k H1 r1 f1⟩
      | true =>
        refine pt_imp (pt_cmpR (op_notIn_kd gd.kd) pa pg hm) fun σ H Q h => ?_
        obtain ⟨Wr, rl, k⟩ := h
        refine ⟨Wr, rl, fun v H1 r1 f1 w1 => ?_⟩
        have w := w1.rep na
        cases w
        exact ⟨z, r, rfl, rfl, h1, !r.isSome, rfl, k H1 r1 f1⟩
    | _ => exact pt_void fun σ H Q => tT_no
end
end PD
end

section
set_option Elab.async false
set_option linter.all false
set_option maxRecDepth 100000
set_option maxHeartbeats 1000000
/-! PDT: sorted(texts), sorted(set(texts)) as expressions -/
namespace PD
open PySem PySem.Spec PyProof.Rows L2
def SetSO (w : World) (a : Addr) (L : List Str) : HO := .ext fun h => SetP w h a (PrS w L)
section
variable {X : Cx}
theorem setSO_new {w : World} {P : Program} {H : Hp} {h : Heap} {a : Addr} {L : List Str} (R : SetP w h a (PrS w L)) : ObjOk P w H h a (SetSO w a L) := by
  have ⟨o, _, _, _, ho, _⟩ := R
  exact ⟨R, ⟨o, ho⟩, fun h1 h2 p k => SetP.at p k⟩
def rSetS (K : PySem.W.Frag) (w : World) : V → Hp → VK → Prop := fun x H Q => ∃ (l : Addr) (xs : List Str), x = V.ref l ∧ SqL K H l (xs.map V.str) ∧ xs.length + 1 < scanBound ∧ ∀ a, H a = none → Q (.ref a) (upd H a (SetSO w a (dedS xs)))
theorem gb_setS (hc : X.calm = true) : GB X (.type "set") (rSetS X.K X.w) := by
  intro pins s σ H xs us Q I r h
  obtain ⟨x, rfl, l, ss, rfl, hl, hn, q⟩ := h
  rw [Vals.ref1 r]
  obtain ⟨its, rv, pl, hz⟩ := I.list hl
  have nw : H s.heap.objs.size = none := I.hok.fresh (Nat.le_refl _)
  refine call_set_texts (I.ok.hd hc) pl.isList (by simpa using rv.strs) hn fun h' tk R k => ?_
  exact ⟨.ref s.heap.objs.size, upd H s.heap.objs.size (SetSO X.w s.heap.objs.size (dedS ss)), I.laid (t' := tk) k (Nat.le_refl _) (setSO_new R), rfl, q _ nw⟩
def rSrtSet (w : World) : V → Hp → VK → Prop := fun x H Q => ∃ (a : Addr) (L : List Str), x = V.ref a ∧ H a = some (SetSO w a L) ∧ ∀ p, H p = none → Q (.ref p) (upd H p (.lst ((srtS L).map V.str)))
theorem gb_srtSet (hc : X.calm = true) : GB X (.builtin "sorted") (rSrtSet X.w) := by
  intro pins s σ H vs us Q I r h
  obtain ⟨x, rfl, a, L, rfl, ha, q⟩ := h
  have R : SetP X.w s.heap a (PrS X.w L) := (I.hok a _ ha).1
  rw [Vals.ref1 r]
  have hL : L.length ≤ sizeLine := by
    obtain ⟨o, es, ep, t, ho, hex, hd, g, hb, _⟩ := R
    rw [← g.2.length_eq, List.length_map, Array.length_toList]
    exact fits_of_scanBound hb
  refine sorted_setS R (I.ok.hd hc) fun s' p out c k g o hp hg hi => ?_
  have hlen : ((srtS L).map V.str).length ≤ sizeLine := by rw [List.length_map, (srtS_perm L).length_eq]; exact hL
  have nw : H p = none := I.hok.fresh hp
  have J : Inv X pins σ (upd H p (.lst ((srtS L).map V.str))) { s with heap := s'.heap, gens := s'.gens, drawn := s'.drawn, toks := s'.toks } :=
    I.call (ch := []) (Un.laid k hp nw) (I.hok.laid k hp ⟨hlen, out.toList, c, vals_of_strs hi, hg⟩) (by rw [g]; exact I.bare) (fun _ z => nomatch z)
  have e : s' = { s with heap := s'.heap, gens := s'.gens, drawn := s'.drawn, toks := s'.toks } := by
    cases s'
    cases s
    cases o
    rfl
  rw [e]
  exact ⟨.ref p, _, J, rfl, q p nw⟩
def rSrtL (K : PySem.W.Frag) : V → Hp → VK → Prop := fun x H Q => ∃ (l : Addr) (xs : List Str), x = V.ref l ∧ SqL K H l (xs.map V.str) ∧ ∀ p, H p = none → Q (.ref p) (upd H p (.lst ((srtS xs).map V.str)))
theorem gb_srtL : GB X (.builtin "sorted") (rSrtL X.K) := by
  intro pins s σ H vs us Q I r h
  obtain ⟨x, rfl, a, xs, rfl, hs, q⟩ := h
  obtain ⟨its, rv, hl, hz⟩ := I.list hs
  rw [Vals.ref1 r]
  have l0 := rv.length
  rw [List.length_map] at l0
  have hz2 : its.length ≤ sizeLine := by
    rw [List.length_map] at hz
    omega
  refine sorted_strsAny hl.isList rv.strs hz2 fun out ys h1 h2 h3 => ?_
  obtain ⟨ep, he'⟩ := PyProof.Rows.sortedAll_at s.heap its out
  rw [srtS_of h2 h3] at h1
  have hlen : ((srtS xs).map V.str).length ≤ sizeLine := by rw [List.length_map, (srtS_perm xs).length_eq]; rw [List.length_map] at hz; exact hz
  exact ⟨.ref _, upd H (s.heap.objs.size + 1) (.lst ((srtS xs).map V.str)), I.laid (t' := s.toks) (fun _ _ => PyProof.Rows.sortedAll_old) (Nat.le_succ _) ⟨hlen, out.toList, ep, vals_of_strs h1, he'⟩, rfl, q _ (I.hok.fresh (Nat.le_succ _))⟩
/-- sorted(set(x)) as one step -/
def GSS (X : Cx) (r : V → Hp → VK → Prop) : Prop := ∃ r1 r2, GB X (.type "set") r1 ∧ GB X (.builtin "sorted") r2 ∧ r = fun x H Q => r1 x H fun y H1 => r2 y H1 Q
theorem ok_srt {cl : Nat → Addr} : OkU X.K cl (GB X (.builtin "sorted")) srtD := by
  intro d c h
  unfold srtD at h
  split at h
  · rename_i xs
    cases e : strsD xs with
    | none => rw [e] at h; cases h
    | some ss =>
      rw [e] at h
      cases h
      refine ⟨_, gb_srtL, fun x H Q O hO rx q => ?_⟩
      obtain ⟨a, vs, rfl, ha, qa⟩ := rx.lst
      refine ⟨a, ss, rfl, (strs_vals e qa) ▸ SqL.of ha, fun t ht => ?_⟩
      exact q _ _ (same_upd ht) (.lst upd_same (nodom hO ht) (RepA.strs _))
  · cases h
theorem ok_sst (hc : X.calm = true) {cl : Nat → Addr} : OkU X.K cl (GSS X) sstD := by
  intro d c h
  unfold sstD at h
  split at h
  · rename_i xs
    split at h
    · rename_i ss e
      split at h
      · rename_i hb
        cases h
        refine ⟨_, ⟨_, _, gb_setS hc, gb_srtSet hc, rfl⟩, fun x H Q O hO rx q => ?_⟩
        obtain ⟨a, vs, rfl, ha, qa⟩ := rx.lst
        refine ⟨a, ss, rfl, (strs_vals e qa) ▸ SqL.of ha, of_decide_eq_true hb, fun t ht => ⟨t, _, rfl, upd_same, fun u hu => ?_⟩⟩
        have s1 := same_upd (o := SetSO X.w t (dedS ss)) ht
        have s2 := same_upd (o := .lst ((srtS (dedS ss)).map V.str)) hu
        have hu0 : H u = none := by
          cases z : H u with
          | none => rfl
          | some o => rw [s1 u o z] at hu; cases hu
        exact q _ _ (fun b o z => s2 b o (s1 b o z)) (.lst upd_same (nodom hO hu0) (RepA.strs _))
      · cases h
    · cases h
  · cases h
end
section
variable {p : Pr} {W : WX} {X : Cx} {G : List D} {cf : Nat → List D → C}
theorem pe_srt {a : Ex} {xa : Expr} {p1 pos : Pos} (hK : X.K = p.K) (bn : BName X "sorted" (.builtin "sorted")) (ha : SE p W X G cf a xa) (he : starEach [xa] X.env = (false, eval xa X.env) :: starEach [] X.env) (hpl : (backTo pos (starEach [] X.env)).any (·.1) = false) (ρ : Env) :
    PE X (.Call (.Name "sorted" p1) [xa] [] pos) (tE p W (.b1 .sorted a) ρ ((evE G cf a ρ).bind fun d ρ1 => match fx a d ρ1 with
      | some d' => ofO (srtD d') ρ1
      | none => .no)) :=
  one (good := GB X (.builtin "sorted")) (fun r ta g h1 => call1 bn he hpl r ta g h1) gb_false srtD (hK ▸ ok_srt (X := X)) ha rfl ρ
theorem pe_sst {a : Ex} {xa : Expr} {p1 p2 pos pos2 : Pos} (hK : X.K = p.K) (hc : X.calm = true) (bn : BName X "sorted" (.builtin "sorted")) (bs : BName X "set" (.type "set")) (ha : SE p W X G cf a xa) (he : starEach [xa] X.env = (false, eval xa X.env) :: starEach [] X.env)
    (hpl : (backTo pos (starEach [] X.env)).any (·.1) = false) (hpl2 : (backTo pos2 (starEach [] X.env)).any (·.1) = false)
    (he2 : starEach [.Call (.Name "set" p2) [xa] [] pos2] X.env = (false, eval (.Call (.Name "set" p2) [xa] [] pos2) X.env) :: starEach [] X.env) (e0 : Ex) (n0 : isBor e0 = none) (ρ : Env) :
    PE X (.Call (.Name "sorted" p1) [.Call (.Name "set" p2) [xa] [] pos2] [] pos) (tE p W e0 ρ ((evE G cf a ρ).bind fun d ρ1 => match fx a d ρ1 with
      | some d' => ofO (sstD d') ρ1
      | none => .no)) :=
  one (good := GSS X) (fun r ta g h1 => by
    obtain ⟨r1, r2, g1, g2, rfl⟩ := g
    exact pe_imp (call1 bn he2 hpl r2 _ g2 (call1T bs he hpl2 r1 ta g1 h1)) fun σ H Q q => q) ⟨fun _ _ _ => False, fun _ _ _ => False, gb_false, gb_false, rfl⟩ sstD (hK ▸ ok_sst (X := X) hc) ha n0 ρ
end
end PD
end

section
set_option Elab.async false
set_option linter.all false
set_option maxRecDepth 100000
set_option maxHeartbeats 1000000
/-! PDL: an own dict that is locked while its keys are walked -/
namespace PD
open PySem PySem.Spec PyProof.Rows L2
theorem noFzK_map : ∀ {kvs : List (D × D)}, noFzK kvs = true → noFzL (kvs.map (·.2)) = true
  | [], _ => rfl
  | (k, v) :: r, h => by
    have h : (noFz v && noFzK r) = true := h
    rw [Bool.and_eq_true] at h
    show (noFz v && noFzL (r.map (·.2))) = true
    rw [h.1, noFzK_map h.2]; rfl
theorem noFzF_map : ∀ {kvs : List (Str × D)}, noFzF kvs = true → noFzL (kvs.map (·.2)) = true
  | [], _ => rfl
  | (k, v) :: r, h => by
    have h : (noFz v && noFzF r) = true := h
    rw [Bool.and_eq_true] at h
    show (noFz v && noFzL (r.map (·.2))) = true
    rw [h.1, noFzF_map h.2]; rfl
section
variable {K : PySem.W.Frag} {cl : Nat → Addr} {H : Hp} {O : Addr → Prop} {c : Addr} {od : Obj} {kv : List (Key × V)}
theorem fz_ne {a : Addr} {u : HO} (hd : H c = some (.frz od (.dK kv))) (h : H a = some u) (hu : ∀ o, u ≠ .frz o (.dK kv)) : a ≠ c := fun z => by
  subst z
  rw [hd] at h
  cases h
  exact hu _ rfl
mutual
theorem Rep.unfz (hd : H c = some (.frz od (.dK kv))) : ∀ {v : V} {x : D}, Rep K cl H O v x → noFz x = true → Rep K cl (upd H c (.dK kv)) (fun a => O a ∨ a = c) v x
  | _, _, .non, _ => .non
  | _, _, .bl b, _ => .bl b
  | _, _, .int i, _ => .int i
  | _, _, .str s, _ => .str s
  | _, _, .tup (a := a) r n h, q =>
    have ne : a ≠ c := by
      rcases r with r | ⟨o, r⟩
      · exact fz_ne hd r fun o z => by cases z
      · exact fz_ne hd r fun o z => by cases z
    .tup (r.imp (fun e => (upd_ne ne).trans e) fun ⟨o, e⟩ => ⟨o, (upd_ne ne).trans e⟩) (fun z => z.elim n ne) (RepA.unfz hd h q)
  | _, _, .tupK r h, q => .tupK r (RepA.unfz hd h q)
  | _, _, .lst (a := a) r n h, q =>
    have ne : a ≠ c := fz_ne hd r fun o z => by cases z
    .lst ((upd_ne ne).trans r) (fun z => z.elim n ne) (RepA.unfz hd h q)
  | _, _, .scr (a := a) r n, q =>
    have ne : a ≠ c := by
      rcases r with r | ⟨o, r⟩
      · exact fz_ne hd r fun o z => by cases z
      · exact fz_ne hd r fun o z => by cases z
    .scr (r.imp (fun e => (upd_ne ne).trans e) fun ⟨o, e⟩ => ⟨o, (upd_ne ne).trans e⟩) (fun z => z.elim n ne)
  | _, _, .scrK r, _ => .scrK r
  | _, _, .dK (a := a) r n e h, q =>
    have ne : a ≠ c := fz_ne hd r fun o z => by cases z
    .dK ((upd_ne ne).trans r) (fun z => z.elim n ne) e (RepA.unfz hd h (noFzK_map q))
  | _, _, .dT (a := a) r n e h, q =>
    have ne : a ≠ c := fz_ne hd r fun o z => by cases z
    .dT ((upd_ne ne).trans r) (fun z => z.elim n ne) e (RepA.unfz hd h (noFzK_map q))
  | _, _, .fK _ _ _ _, q => by cases q
  | _, _, .obj (a := a) r n e h, q =>
    have ne : a ≠ c := fz_ne hd r fun o z => by cases z
    .obj ((upd_ne ne).trans r) (fun z => z.elim n ne) e (RepA.unfz hd h (noFzF_map q))
theorem RepA.unfz (hd : H c = some (.frz od (.dK kv))) : ∀ {v : List V} {x : List D}, RepA K cl H O v x → noFzL x = true → RepA K cl (upd H c (.dK kv)) (fun a => O a ∨ a = c) v x
  | _, _, .nil, _ => .nil
  | _, _, .cons (d := d) (ds := ds) h t, q =>
    have q : noFz d = true ∧ noFzL ds = true := by
      have q : (noFz d && noFzL ds) = true := q
      rwa [Bool.and_eq_true] at q
    .cons (Rep.unfz hd h q.1) (RepA.unfz hd t q.2)
end
theorem Own.unfz (hd : H c = some (.frz od (.dK kv))) {a : Addr} {x : D} (h : Own K cl H O a x) (ne : a ≠ c) (q : noFz x = true) : Own K cl (upd H c (.dK kv)) (fun a => O a ∨ a = c) a x := by
  cases h with
  | lst e r => exact .lst ((upd_ne ne).trans e) (RepA.unfz hd r q)
  | dK e k r => exact .dK ((upd_ne ne).trans e) k (RepA.unfz hd r (noFzK_map q))
  | dT e k r => exact .dT ((upd_ne ne).trans e) k (RepA.unfz hd r (noFzK_map q))
  | obj e k r => exact .obj ((upd_ne ne).trans e) k (RepA.unfz hd r (noFzF_map q))
end
/-- while the dict at c, slot i's own, is locked: it is clean then -/
def Pr.lck (p : Pr) (i : Nat) (c : Addr) : Pr := { p with Z := fun a => p.Z a ∧ a ≠ c, M := fun j => if j = i then false else p.M j, io := p.io.filter fun q => q.1 != i }
section
variable {p : Pr} {W : WX} {X : Cx} {G : List D} {cf : Nat → List D → C} {ρ ρ1 : Env} {σ : L2.St} {H H1 : Hp} {Wr : Addr → Prop} {i : Nat} {c : Addr} {od : Obj} {kv : List (Key × V)} {ds : List (D × D)}
theorem lck_ne {j : Nat} (h : j ≠ i) : (p.lck i c).M j = p.M j := if_neg h
theorem fzE_of {j : Nat} {d : D} (h : fzE i ρ = true) (ne : i ≠ j) (e : lk ρ j = some d) : noFz d = true := by
  unfold fzE at h
  rw [List.all_eq_true] at h
  have hj : (ρ.set i none)[j]? = some (some d) := by
    rw [List.getElem?_set_ne ne]
    unfold lk at e
    cases q : ρ[j]? with
    | none => rw [q] at e; cases e
    | some o =>
      rw [q] at e
      have e : o = some d := e
      rw [e]
  exact h _ (List.mem_of_getElem? hj)
theorem Rel.lock (r : Rel p ρ σ H Wr) (m : p.M i = true) (e : lk ρ i = some (.dct false ds)) (hs : σ[i]? = some (some (.ref c))) (wc : Wr c) (hd : H c = some (.dK kv)) (hk : ds.map (·.1) = kv.map (fun q => kD q.1)) (qa : RepA p.K p.cl H (p.O Wr) (kv.map (·.2)) (ds.map (·.2))) :
    Rel (p.lck i c) (ρ.set i (some (.fz ds))) σ (upd H c (.frz od (.dK kv))) (fun a => Wr a ∧ a ≠ c) := by
  have li := lk_lt e
  have hf : ∀ a o, ¬ p.O Wr a → H a = some o → upd H c (.frz od (.dK kv)) a = some o := fun a o n q => by
    rw [upd_ne (fun z => n (by rw [z]; exact .inr wc))]
    exact q
  have ho : ∀ a, (p.lck i c).O (fun a => Wr a ∧ a ≠ c) a → p.O Wr a := fun a h => h.imp (·.1) (·.1)
  have kept : ∀ j, (lk (ρ.set i (some (.fz ds))) j).isSome = true → (lk ρ j).isSome = true := fun j h => by
    by_cases z : i = j
    · subst z; rw [e]; rfl
    · rwa [lk_set_ne z] at h
  have nj : ∀ {j}, (p.lck i c).M j = true → j ≠ i ∧ p.M j = true := fun {j} h => by
    by_cases z : j = i
    · have : (p.lck i c).M j = false := if_pos z
      rw [this] at h; cases h
    · rw [lck_ne z] at h
      exact ⟨z, h⟩
  refine ⟨by rw [List.length_set]; exact r.len, fun a h => ?_, fun j x mj ej => ?_, fun j x mj ej => ?_, fun j k b mj mk hj hk => r.inj j k b (nj mj).2 (nj mk).2 (kept j hj) (kept k hk), fun q hq => ?_⟩
  · by_cases z : a = c
    · rw [z, upd_same]; rfl
    · rw [upd_ne z]
      exact r.dom a (ho a h)
  · by_cases z : i = j
    · subst z
      rw [lk_set_eq li] at ej
      cases ej
      exact ⟨_, hs, .fK upd_same (fun z => z.elim (fun z => z.2 rfl) fun z => z.2 rfl) hk (qa.frame hf fun a _ => ho a)⟩
    · rw [lk_set_ne z] at ej
      rw [lck_ne (fun w => z w.symm)] at mj
      obtain ⟨v, h1, h2⟩ := r.cl j x mj ej
      exact ⟨v, h1, h2.frame hf fun a _ => ho a⟩
  · obtain ⟨z, mj2⟩ := nj mj
    rw [lk_set_ne (fun w => z w.symm)] at ej
    obtain ⟨b, h1, h2, h3, h4⟩ := r.own j x mj2 ej
    have ne : b ≠ c := fun q => z (by
      subst q
      exact r.inj j i b mj2 m (by rw [ej]; rfl) (by rw [e]; rfl) h1 hs)
    exact ⟨b, h1, ⟨h2, ne⟩, h3.frame (upd_ne ne) hf (fun a _ => ho a), fun zb => List.mem_filter.mpr ⟨h4 zb.1, by simpa using z⟩⟩
  · obtain ⟨hq1, hq2⟩ := List.mem_filter.mp hq
    have z : q.1 ≠ i := by simpa using hq2
    obtain ⟨h1, h2, h3, h4⟩ := r.ioz q hq1
    refine ⟨by rw [lck_ne z]; exact h1, by rw [lk_set_ne (fun w => z w.symm)]; exact h2, h3, h4, fun w => z ?_⟩
    rw [w] at h3
    exact r.inj q.1 i c h1 m h2 (by rw [e]; rfl) h3 hs
theorem Rel.unlock (r : Rel p ρ σ H Wr) (m : p.M i = true) (e : lk ρ i = some (.dct false ds)) (hs : σ[i]? = some (some (.ref c))) (wc : Wr c) (hd : H c = some (.dK kv)) (hk : ds.map (·.1) = kv.map (fun q => kD q.1)) (qa : RepA p.K p.cl H (p.O Wr) (kv.map (·.2)) (ds.map (·.2)))
    (r1 : Rel (p.lck i c) ρ1 σ H1 (fun a => Wr a ∧ a ≠ c)) (f1 : Fr (fun a => Wr a ∧ a ≠ c) (upd H c (.frz od (.dK kv))) H1) (nf : fzE i ρ1 = true) :
    H1 c = some (.frz od (.dK kv)) ∧ Rel p (ρ1.set i (some (.dct false ds))) σ (upd H1 c (.dK kv)) Wr ∧ Fr Wr H (upd H1 c (.dK kv)) := by
  have hc1 : H1 c = some (.frz od (.dK kv)) := f1.keep c _ (fun z => z.2 rfl) upd_same
  have fr : Fr Wr H (upd H1 c (.dK kv)) := by
    refine ⟨fun a o n q => ?_, fun a q => ?_⟩
    · have ne : a ≠ c := fun z => n (by rw [z]; exact wc)
      rw [upd_ne ne]
      exact f1.keep a o (fun z => n z.1) ((upd_ne ne).trans q)
    · by_cases z : a = c
      · rw [z, upd_same]; rfl
      · rw [upd_ne z]
        exact f1.dom a (by rw [upd_ne z]; exact q)
  have li : i < ρ1.length := by
    rw [r1.len, ← r.len]
    exact lk_lt e
  have ho : ∀ a, p.O Wr a → (p.lck i c).O (fun a => Wr a ∧ a ≠ c) a ∨ a = c := fun a h => by
    by_cases z : a = c
    · exact .inr z
    · exact .inl (h.imp (fun q => ⟨q, z⟩) fun q => ⟨q, z⟩)
  refine ⟨hc1, ⟨by rw [List.length_set]; exact r1.len, fun a h => ?_, fun j x mj ej => ?_, fun j x mj ej => ?_, fun j k b mj mk hj hk sj sk => ?_, fun q hq => ?_⟩, fr⟩
  · by_cases z : a = c
    · rw [z, upd_same]; rfl
    · rw [upd_ne z]
      rcases ho a h with h | h
      · exact r1.dom a h
      · exact (z h).elim
  · have z : j ≠ i := fun z => by rw [z, m] at mj; cases mj
    rw [lk_set_ne (fun w => z w.symm)] at ej
    obtain ⟨v, h1, h2⟩ := r1.cl j x (by rw [lck_ne z]; exact mj) ej
    exact ⟨v, h1, (Rep.unfz hc1 h2 (fzE_of nf (fun w => z w.symm) ej)).shrink ho⟩
  · by_cases z : j = i
    · subst z
      rw [lk_set_eq li] at ej
      cases ej
      obtain ⟨b, h1, h2, h3, h4⟩ := r.own j _ m e
      rw [hs] at h1
      cases h1
      exact ⟨c, hs, wc, .dK upd_same hk (qa.frame (fun a o n q => fr.keep a o (fun z => n (.inr z)) q) fun _ _ z => z), h4⟩
    · rw [lk_set_ne (fun w => z w.symm)] at ej
      obtain ⟨b, h1, h2, h3, h4⟩ := r1.own j x (by rw [lck_ne z]; exact mj) ej
      have ow := Own.unfz hc1 h3 h2.2 (fzE_of nf (fun w => z w.symm) ej)
      exact ⟨b, h1, h2.1, ow.frame rfl (fun _ _ _ q => q) fun a _ => ho a, fun zb => (List.mem_filter.mp (h4 ⟨zb, h2.2⟩)).1⟩
  · have one : ∀ {j : Nat}, p.M j = true → j ≠ i → (lk (ρ1.set i (some (.dct false ds))) j).isSome = true → σ[j]? ≠ some (some (.ref c)) := fun {j} mj z hj q => by
      rw [lk_set_ne (fun w => z w.symm)] at hj
      obtain ⟨x, ex⟩ := Option.isSome_iff_exists.mp hj
      obtain ⟨b, h1, h2, _⟩ := r1.own j x (by rw [lck_ne z]; exact mj) ex
      rw [q] at h1
      cases h1
      exact h2.2 rfl
    by_cases z : j = i
    · by_cases w : k = i
      · rw [z, w]
      · rw [z, hs] at sj
        cases sj
        exact (one mk w hk sk).elim
    · by_cases w : k = i
      · rw [w, hs] at sk
        cases sk
        exact (one mj z hj sj).elim
      · rw [lk_set_ne (fun q => z q.symm)] at hj
        rw [lk_set_ne (fun q => w q.symm)] at hk
        exact r1.inj j k b (by rw [lck_ne z]; exact mj) (by rw [lck_ne w]; exact mk) hj hk sj sk
  · by_cases z : q.1 = i
    · obtain ⟨h1, h2, h3, h4⟩ := r.ioz q hq
      exact ⟨h1, by rw [z, lk_set_eq li]; rfl, h3, h4⟩
    · obtain ⟨h1, h2, h3, h4⟩ := r1.ioz q (List.mem_filter.mpr ⟨hq, by simpa using z⟩)
      rw [lck_ne z] at h1
      exact ⟨h1, by rw [lk_set_ne (fun w => z w.symm)]; exact h2, h3, h4.1⟩
theorem s_lockd {e : Ex} {x : Expr} (hM : p.M i = true) (hx : ∀ c, SE (p.lck i c) W X G cf e x) (ne : isBor e = none) : SE p W X G cf (.lockd i e) x := fun ρ => by
  simp only [evE]
  cases el : lk ρ i with
  | none => exact pe_no
  | some dd =>
    cases dd with
    | dct t ds =>
      cases t with
      | true => exact pe_no
      | false =>
        simp only
        cases ee : evE G cf e (ρ.set i (some (.fz ds))) with
        | no => exact pe_no
        | ex c fs ρ1 => exact pe_no
        | ok d ρ1 =>
          simp only
          by_cases hz : (noFz d && fzE i ρ1) = true
          · rw [if_pos hz]
            rw [Bool.and_eq_true] at hz
            have P : PE X x (fun σ H Q => ∃ c, tE (p.lck i c) W e (ρ.set i (some (.fz ds))) (.ok d ρ1) σ H Q) := by
              refine ⟨fun pins s σ H Q I h => ?_⟩
              obtain ⟨c, h⟩ := h
              have q := hx c (ρ.set i (some (.fz ds)))
              rw [ee] at q
              exact q.run pins s σ H Q I h
            refine pe_imp (pe_lock P) fun σ H Q h => ?_
            obtain ⟨Wr, r, k⟩ := h
            obtain ⟨c, h1, h2, h3, h4⟩ := r.own i _ hM el
            cases h3 with
            | dK e0 hk qa =>
              refine ⟨c, _, e0, trivial, fun od => ⟨c, _, r.lock hM el h1 h2 e0 hk qa, fun v H1 r1 f1 w1 => ?_⟩⟩
              obtain ⟨g1, g2, g3⟩ := r.unlock hM el h1 h2 e0 hk qa r1 f1 hz.2
              refine ⟨g1, k v _ g2 g3 (Val.of (p := p) ?_ rfl)⟩
              have rv := w1.rep ne
              refine (Rep.unfz g1 rv hz.1).shrink fun a h => ?_
              by_cases z : a = c
              · exact .inr z
              · exact .inl (h.imp (fun q => ⟨q, z⟩) fun q => ⟨q, z⟩)
          · rw [if_neg hz]
            exact pe_no
    | _ => exact pe_no
variable {wf : Nat}
/-- name = [.. for k in d ..] on one line, d an own dict -/
theorem ss_lcL (hK : X.K = p.K) (hc : X.calm = true) (hN : X.N.Nodup) {k : Nat} {y : Str} {py spos : Pos} {e cd : Ex} {tg : Tg} {own : List (Str × Nat)} {it : PD.It} {elt tx iter : Expr} {ifs : List Expr} {scope : Scope} {pos : Pos} (hy : X.N[k]? = some y) (hyl : X.env.scope.names.lookup y = some .local)
    (hsw : swapsWith (.ListComp elt [⟨tx, iter, ifs, 0⟩] scope pos) (some (.Name y py)) spos.line X.env = pure true) (hM : p.M i = true) (hi : ∀ c, SI (p.lck i c) W X G cf it tx iter) (ok : BlkOk X.N X.env.scope scope own)
    (m : ∀ j ∈ own.map (·.2), p.M j = false) (hs : ∀ j ∈ tgSlots tg, j ∈ own.map (·.2)) (nc : isBor cd = none) (ne : isBor e = none)
    (hg : ∀ (s : Shared) (H : Hp) (C : Addr) (cl : List (Str × Addr)) (fp : List Addr), PG (X.blk s H scope (compEnvC scope cl C X.env) fp) tx (gOf X.K tg))
    (ht : ∀ (c : Addr) (s : Shared) (H : Hp) (C : Addr) (cl : List (Str × Addr)) (fp : List Addr), PTs (X.blk s H scope (compEnvC scope cl C X.env) fp) ifs (tTb (p.lck i c) G cf cd))
    (he : ∀ (c : Addr) (s : Shared) (H : Hp) (C : Addr) (cl : List (Str × Addr)) (fp : List Addr), PE (X.blk s H scope (compEnvC scope cl C X.env) fp) elt (tEb (p.lck i c) G cf e))
    (hf : ∀ x, foldedSetIterable iter X.env x = pure x) (mk : p.M k = false) :
    SS p W X G cf wf (.asg (.nm k) (.lockd i (.cmpr e tg (own.map (·.2)) it cd))) (.Assign [.Name y py] (.ListComp elt [⟨tx, iter, ifs, 0⟩] scope pos) spos) := ss_of fun ρ => by
  simp only [exS, asgT, evE]
  cases el : lk ρ i with
  | none => exact ps_no1
  | some dd =>
    cases dd with
    | dct t ds =>
      cases t with
      | true => exact ps_no1
      | false =>
        simp only
        have pi := fun c => hi c (ρ.set i (some (.fz ds)))
        cases ei : evI G cf it (ρ.set i (some (.fz ds))) with
        | no => exact ps_no1
        | ex c fs ρ1 => exact ps_no1
        | ok xs ρ1 =>
          simp only [R.bind]
          cases ec : compL (fun r => evE G cf cd r) (fun r => evE G cf e r) tg (own.map (·.2)) xs ρ1 with
          | no => exact ps_no1
          | ex c fs ρ2 => exact ps_no1
          | ok ys ρe =>
            simp only
            by_cases hz : fitn xs.length = true
            · rw [if_pos hz]
              simp only
              by_cases hz2 : (noFz (.lst ys) && fzE i (backE ρ1 ρe (own.map (·.2)))) = true
              · rw [if_pos hz2]
                rw [Bool.and_eq_true] at hz2
                refine ⟨fun pins s σ H D I h => ?_⟩
                obtain ⟨Φ, Wr, fo, r, f, q⟩ := h
                obtain ⟨c, h1, h2, h3, h4⟩ := r.own i _ hM el
                cases h3 with
                | @dK kv _ e0 hk qa =>
                  have pi := pi c
                  rw [ei] at pi
                  refine (ps_lock (ps_setLc hc hN hy hyl hsw pi ok hg (ht c) (he c) hf)).run pins s σ H D I ?_
                  refine ⟨c, _, e0, trivial, fun od => ⟨_, r.lock hM el h1 h2 e0 hk qa, fun J H1 r1 f1 jk => ?_⟩⟩
                  have m2 : ∀ j ∈ own.map (·.2), (p.lck i c).M j = false := fun j hj => by
                    by_cases z : j = i
                    · exact if_pos z
                    · rw [lck_ne z]; exact m j hj
                  refine lc_read (p := p.lck i c) (Q := fun v H' => gName k v σ H' fun σ' H' => H' c = some (.frz od (.dK kv)) ∧ D.nx σ' (upd H' c (.dK kv))) hK nc ne m2 hs r1 jk (of_decide_eq_true hz) ec fun a H2 na q1 q2 f2 no ow => ?_
                  obtain ⟨g1, g2, g3⟩ := r.unlock hM el h1 h2 e0 hk qa q1 (f1.trans f2) hz2.2
                  refine ⟨g1, ?_⟩
                  have rv := ow.rep (O' := (p.lck i c).O fun a => Wr a ∧ a ≠ c) (fun b z => z.imp id .inl) no
                  have rv2 : p.Rep (upd H2 c (.dK kv)) Wr (.ref a) (.lst ys) := (Rep.unfz g1 rv hz2.1).shrink fun a h => by
                    by_cases z : a = c
                    · exact .inr z
                    · exact .inl (h.imp (fun q => ⟨q, z⟩) fun q => ⟨q, z⟩)
                  exact q _ _ Wr (g2.set mk rv2) (fo.step f g3)
              · rw [if_neg hz2]
                exact ps_no1
            · rw [if_neg hz]
              exact ps_no1
    | _ => exact ps_no1
/-- an empty list or dict -/
def emptyE : Ex → Expr → Bool
  | .lst .nil, .List [] _ => true
  | .dct false .nil .nil, .Dict [] [] _ => true
  | _, _ => false
theorem empty_of {b : Ex} {xb : Expr} (h : emptyE b xb = true) : ∃ db o, (∀ ρ, evE G cf b ρ = .ok db ρ) ∧ PE X xb (fun σ H Q => ∀ t, H t = none → Q (.ref t) (upd H t o)) ∧ ∀ H Wr t, p.Own (upd H t o) Wr t db := by
  unfold emptyE at h
  split at h
  · refine ⟨.lst [], .lst [], fun ρ => ?_, pe_imp (pe_lst pa_nil) fun σ H Q q => ⟨by decide, fun t ht => q t ht⟩, fun H Wr t => .lst upd_same .nil⟩
    simp only [evE, evs, R.bind]
    rfl
  · refine ⟨.dct false [], .dK [], fun ρ => ?_, pe_imp pe_dnewK fun σ H Q q => fun t ht => q t ht, fun H Wr t => .dK upd_same rfl .nil⟩
    simp only [evE, evs, R.bind]
    rfl
  · cases h
/-- x, y = a, [] : both own -/
theorem ss_parO {j : Nat} {a b : Ex} {xa xb : Expr} {x y : Str} {px py pt pos pt2 : Pos} {kt k2 : Nat} (hc : X.calm = true) (hN : X.N.Nodup) (hi : X.N[i]? = some x) (hj : X.N[j]? = some y) (hij : i ≠ j) (hx : X.env.scope.names.lookup x = some .local) (hy : X.env.scope.names.lookup y = some .local)
    (mi : p.M i = true) (mj : p.M j = true) (ni : ∀ b, (i, b) ∉ p.io) (nj : ∀ b, (j, b) ∉ p.io) (h : SF p W X G cf a xa) (hb : emptyE b xb = true) (s1 : starEach [xa, xb] X.env = (false, eval xa X.env) :: starEach [xb] X.env) (s2 : starEach [xb] X.env = (false, eval xb X.env) :: starEach [] X.env)
    (hw : swappedStores [.Tuple [.Name x px, .Name y py] kt pt] (.Tuple [xa, xb] k2 pt2) X.env = pure (some [x, y])) (hs : swapsWithSole [.Tuple [.Name x px, .Name y py] kt pt] (.Tuple [xa, xb] k2 pt2) pos.line X.env = pure false) :
    SS p W X G cf wf (.par [i, j] (.cons a (.cons b .nil))) (.Assign [.Tuple [.Name x px, .Name y py] kt pt] (.Tuple [xa, xb] k2 pt2) pos) := ss_of fun ρ => by
  obtain ⟨db, o, eb, pb, ob⟩ := empty_of (p := p) (X := X) (G := G) (cf := cf) hb
  have pa := h ρ
  simp only [exS, evs]
  cases ea : evE G cf a ρ with
  | no => exact ps_no1
  | ex c fs ρ1 =>
    rw [ea] at pa
    exact ps_imp (ps_par hc hN hi hj hij hx hy (pa_cons pa (pa_cons pb pa_nil s2) s1) hw hs) fun D σ H ⟨Φ, Wr, ok, r, f, k⟩ => ⟨Wr, r, ex_of ok f k⟩
  | ok d ρ1 =>
    rw [ea] at pa
    simp only [R.bind, eb, R.bindS]
    have hl : decide ([d, db].length = [i, j].length) = true := rfl
    rw [if_pos hl]
    refine ps_imp (ps_par hc hN hi hj hij hx hy (pa_cons pa (pa_cons pb pa_nil s2) s1) hw hs) fun D σ H ⟨Φ, Wr, ok, r, f, k⟩ => ⟨Wr, r, fun t H1 na r1 r2 f1 no ow => ?_⟩
    intro u hu
    refine ⟨_, _, rfl, ?_⟩
    have sm := same_upd (o := o) hu
    have q1 := (r1.take r2 mi ni no ow)
    have g1 := q1.same sm
    have g2 := q1.grow hu sm (by rw [upd_same]; rfl)
    have nu : ¬ p.O (fun b => Wr b ∨ b = t) u := nodom q1.dom hu
    have q3 := g1.take g2 mj nj nu (ob _ _ _)
    have ok1 := ok.grow f na f1
    exact k _ _ _ q3 (ok.grow ok1 hu (Fr.same sm))
/-- x, y = a, [] : both own, through a tuple -/
theorem ss_parT {j : Nat} {a b : Ex} {xa xb : Expr} {x y : Str} {px py pt pos pt2 : Pos} {kt k2 : Nat} (hc : X.calm = true) (hN : X.N.Nodup) (hi : X.N[i]? = some x) (hj : X.N[j]? = some y) (lx : L2.Loc X.env.scope x) (fx : X.fn x = true ∨ X.env.scope.names.lookup x = some .local) (ly : L2.Loc X.env.scope y)
    (fy : X.fn y = true ∨ X.env.scope.names.lookup y = some .local) (mi : p.M i = true) (mj : p.M j = true) (ni : ∀ b, (i, b) ∉ p.io) (nj : ∀ b, (j, b) ∉ p.io) (h : SF p W X G cf a xa) (hb : emptyE b xb = true) (s1 : starEach [xa, xb] X.env = (false, eval xa X.env) :: starEach [xb] X.env) (s2 : starEach [xb] X.env = (false, eval xb X.env) :: starEach [] X.env)
    (hw : swappedStores [.Tuple [.Name x px, .Name y py] kt pt] (.Tuple [xa, xb] k2 pt2) X.env = pure none) (hs : swapsWithSole [.Tuple [.Name x px, .Name y py] kt pt] (.Tuple [xa, xb] k2 pt2) pos.line X.env = pure false) :
    SS p W X G cf wf (.par [i, j] (.cons a (.cons b .nil))) (.Assign [.Tuple [.Name x px, .Name y py] kt pt] (.Tuple [xa, xb] k2 pt2) pos) := ss_of fun ρ => by
  obtain ⟨db, o, eb, pb, ob⟩ := empty_of (p := p) (X := X) (G := G) (cf := cf) hb
  have pa := h ρ
  have pg : PG X (.Tuple [.Name x px, .Name y py] kt pt) (gSeq X.K 2 (gNms [i, j])) := pg_seq hc (pgs_cons (pg_name hN hi lx fx) (pgs_cons (pg_name hN hj ly fy) pgs_nil (by rfl)) (by rfl)) rfl rfl
  simp only [exS, evs]
  cases ea : evE G cf a ρ with
  | no => exact ps_no1
  | ex c fs ρ1 =>
    rw [ea] at pa
    exact ps_imp (ps_asg (pe_tup (pa_cons pa (pa_cons pb pa_nil s2) s1)) pg hs hw rfl) fun D σ H ⟨Φ, Wr, ok, r, f, k⟩ => ⟨Wr, r, ex_of ok f k⟩
  | ok d ρ1 =>
    rw [ea] at pa
    simp only [R.bind, eb, R.bindS]
    have hl : decide ([d, db].length = [i, j].length) = true := rfl
    rw [if_pos hl]
    refine ps_imp (ps_asg (pe_tup (pa_cons pa (pa_cons pb pa_nil s2) s1)) pg hs hw rfl) fun D σ H ⟨Φ, Wr, ok, r, f, k⟩ => ⟨Wr, r, fun t H1 na r1 r2 f1 no ow => ?_⟩
    intro u hu
    refine ⟨(show 2 ≤ sizeLine by decide), fun T hT => ?_⟩
    refine .inl ⟨T, _, rfl, .inl (.inl upd_same), rfl, ⟨_, _, rfl, ⟨_, _, rfl, rfl, ?_⟩⟩⟩
    have sm := same_upd (o := o) hu
    have sm2 := same_upd (o := .tup [V.ref t, V.ref u]) hT
    have q1 := (r1.take r2 mi ni no ow)
    have g1 := q1.same sm
    have g2 := q1.grow hu sm (by rw [upd_same]; rfl)
    have nu : ¬ p.O (fun b => Wr b ∨ b = t) u := nodom q1.dom hu
    have q3 := g1.take g2 mj nj nu (ob _ _ _)
    have ok1 := ok.grow f na f1
    exact k _ _ _ (q3.same sm2) (ok.step (ok.grow ok1 hu (Fr.same sm)) (Fr.same sm2))
end
end PD
end

section
set_option Elab.async false
set_option linter.all false
set_option maxRecDepth 100000
set_option maxHeartbeats 1000000
/-! PD15: does a text of the small language match a Python text? -/
namespace PD
open PySem PySem.Spec PyProof.Rows L2

/-! ### shapes -/
def noStar : Expr → Bool
  | .Starred .. => false
  | _ => true
def noSup : Expr → Bool
  | .Call .. => false
  | _ => true
def noSl : Expr → Bool
  | .Slice .. => false
  | _ => true
def noSet : Expr → Bool
  | .Set .. => false
  | _ => true
def noComp : Expr → Bool
  | .ListComp .. => false
  | .SetComp .. => false
  | .DictComp .. => false
  | _ => true
/-- a test of this shape is the value's truth -/
def noTest : Expr → Bool
  | .UnaryOp .. => false
  | .BoolOp .. => false
  | .IfExp .. => false
  | .Compare .. => false
  | _ => true
theorem star_of {e : Expr} {es : List Expr} {env : PySem.Env} (h : noStar e = true) : starEach (e :: es) env = (false, eval e env) :: starEach es env := by
  cases e <;> first | rfl | cases h
theorem star_all : ∀ {es : List Expr} {env : PySem.Env} {pos : Pos}, es.all noStar = true → (backTo pos (starEach es env)).any (·.1) = false
  | [], _, _, _ => rfl
  | e :: es, env, pos, h => by
    rw [List.all_cons, Bool.and_eq_true] at h
    rw [star_of h.1]
    show (false || (backTo pos (starEach es env)).any (·.1)) = false
    rw [star_all h.2]; rfl
theorem sup_of {e : Expr} {a : Str} {env : PySem.Env} {w : Sem Value} (h : noSup e = true) : attributeBase e a env w = w := by
  cases e <;> first | rfl | cases h
theorem sl_of {e : Expr} (h : noSl e = true) : PlainIx e := by
  intro o i
  cases e <;> first | rfl | cases h
theorem set_of {e : Expr} {op : CmpOp} (h : noSet e = true) : behindInMarks op e = false := by
  cases e <;> first | rfl | cases h
theorem fold_of {e : Expr} {env : PySem.Env} {x : Value} (h : noSet e = true) : foldedSetIterable e env x = pure x := by
  cases e <;> first | rfl | cases h
theorem comp_of {e : Expr} {t : Option Expr} {l : Nat} {env : PySem.Env} (h : noComp e = true) : swapsWith e t l env = pure false := by
  cases e <;> first | rfl | cases h
theorem test_of {e : Expr} {env : PySem.Env} (h : noTest e = true) : ∀ whole, isTrue e env whole = (do let v ← whole; standAt e.pos; holding [v] (truthy v)) := by
  intro whole
  cases e <;> first | rfl | cases h
def isOp : Bop → Operator → Bool
  | .add, .Add => true | .sub, .Sub => true | .mul, .Mult => true | .fdiv, .FloorDiv => true | .mod, .Mod => true | .pow, .Pow => true
  | _, _ => false
theorem isOp_eq {o : Bop} {op : Operator} (h : isOp o op = true) : op = opOf o := by
  cases o <;> cases op <;> first | rfl | cases h
def isCop : Cop → CmpOp → Bool
  | .eq, .Eq => true | .ne, .NotEq => true | .lt, .Lt => true | .le, .LtE => true | .gt, .Gt => true | .ge, .GtE => true | .isin, .In => true | .nin, .NotIn => true | .is, .Is => true | .isn, .IsNot => true
  | _, _ => false
theorem isCop_eq {o : Cop} {op : CmpOp} (h : isCop o op = true) : op = copOf o := by
  cases o <;> cases op <;> first | rfl | cases h

/-! ### the matching context -/
structure MC where
  N : List Str
  M : Nat → Bool
  io : List Nat
  fs : List (Str × Nat)
  gs : List (Str × Nat)
  gd : List (Str × Nat)
  fns : List Fn
def MC.lck (mc : MC) (i : Nat) : MC := { mc with M := fun j => if j = i then false else mc.M j }
def visB (sc : Scope) (x : Str) : Bool :=
  match sc.names.lookup x with
  | some .local => true
  | some .cell => true
  | some .free => true
  | _ => false
def glB (sc : Scope) (x : Str) : Bool :=
  match sc.names.lookup x with
  | some .globalImplicit => true
  | _ => false
def tgB (lv : Bool) (sc : Scope) (x : Str) : Bool :=
  match sc.names.lookup x with
  | some .local => true
  | some .cell => lv
  | _ => false
def okName (x : Str) : Bool := (!(x == ("__debug__" : Str))) && !(x == ("__classdict__" : Str))
def bnames : List Str := ["len", "abs", "int", "str", "repr", "all", "any", "tuple", "list", "isinstance", "bool", "dict", "range", "zip", "enumerate", "sorted", "set"]
def mNm (mc : MC) (sc : Scope) (i : Nat) (x : Str) : Bool := decide (mc.N[i]? = some x) && visB sc x && okName x
def b1B (b : B1) : Bool :=
  match b with
  | .len => true | .abs => true | .int => true | .str => true | .repr => true | .all => true | .any => true | .tuple => true | .list => true | .sorted => true
  | _ => false
def ownOf (N : List Str) (own : List Nat) : List (Str × Nat) := own.map fun i => ((N[i]?).getD Str.empty, i)
def mTg (mc : MC) (lv : Bool) (sc : Scope) : Tg → Expr → Bool
  | .nm i, .Name x _ => decide (mc.N[i]? = some x) && tgB lv sc x && !mc.M i
  | .tp is, .Tuple xs _ _ => go is xs
  | _, _ => false
where
  go : List Nat → List Expr → Bool
  | [], [] => true
  | i :: is, .Name x _ :: xs => decide (mc.N[i]? = some x) && tgB lv sc x && !mc.M i && go is xs
  | _, _ => false

mutual
def mE : MC → Nat → Bool → Scope → Ex → Expr → Bool
  | mc, 0, _, _, _, _ => false
  | mc, n + 1, lv, sc, .var i, x => match x with
    | .Name x _ => mNm mc sc i x && !mc.M i
    | _ => false
  | mc, n + 1, lv, sc, .bor i, x => match x with
    | .Name x _ => mNm mc sc i x && mc.M i
    | _ => false
  | mc, n + 1, lv, sc, .non, x => match x with
    | .Constant .none _ _ => true
    | _ => false
  | mc, n + 1, lv, sc, .bl b, x => match x with
    | .Constant (.bool c) _ _ => b == c
    | _ => false
  | mc, n + 1, lv, sc, .int i, x => match x with
    | .Constant (.int j) _ _ => decide (i = j)
    | _ => false
  | mc, n + 1, lv, sc, .str s, x => match x with
    | .Constant (.str t) _ _ => decide (s = t)
    | _ => false
  | mc, n + 1, lv, sc, .glo g, x => match x with
    | .Name x _ => glB sc x && okName x && decide ((x, g) ∈ mc.gs)
    | _ => false
  | mc, n + 1, lv, sc, .tup es, x => match x with
    | .Tuple xs _ _ => mEs mc n lv sc es xs && allClean es
    | _ => false
  | mc, n + 1, lv, sc, .dct t ks vs, x => match t, ks, vs, x with
    | false, .nil, .nil, .Dict [] [] _ => true
    | false, .cons (.str z) .nil, .cons (.int i) .nil, .Dict [some (.Constant (.str y) _ _)] [.Constant (.int j) _ _] _ => decide (z = y) && decide (i = j)
    | _, _, _, _ => false
  | mc, n + 1, lv, sc, .bin o a b, x => match x with
    | .BinOp xa op xb _ => isOp o op && mE mc n lv sc a xa && mE mc n lv sc b xb
    | _ => false
  | mc, n + 1, lv, sc, .neg a, x => match x with
    | .UnaryOp .USub xa _ => mE mc n lv sc a xa && (isBor a).isNone
    | _ => false
  | mc, n + 1, lv, sc, .cmp o a b, x => match x with
    | .Compare xa [op] [xb] _ => isCop o op && noSet xb && mE mc n lv sc a xa && mE mc n lv sc b xb
    | _ => false
  | mc, n + 1, lv, sc, .chn o o' a b c, x => match x with
    | .Compare xa [op, op'] [xb, xc] _ => isCop o op && isCop o' op' && noSet xc && mE mc n lv sc a xa && mE mc n lv sc b xb && mE mc n lv sc c xc
    | _ => false
  | mc, n + 1, lv, sc, .nt a, x => match x with
    | .UnaryOp .Not xa _ => mE mc n lv sc a xa
    | _ => false
  | mc, n + 1, lv, sc, .an a b, x => match x with
    | .BoolOp .And [xa, xb] _ => mE mc n lv sc a xa && mE mc n lv sc b xb && (isBor a).isNone && (isBor b).isNone
    | .BoolOp .And (xa :: xb :: xc :: r) p => mE mc n lv sc a xa && mE mc n lv sc b (.BoolOp .And (xb :: xc :: r) p) && (isBor a).isNone && (isBor b).isNone
    | _ => false
  | mc, n + 1, lv, sc, .orr a b, x => match x with
    | .BoolOp .Or [xa, xb] _ => mE mc n lv sc a xa && mE mc n lv sc b xb && (isBor a).isNone && (isBor b).isNone
    | .BoolOp .Or (xa :: xb :: xc :: r) p => mE mc n lv sc a xa && mE mc n lv sc b (.BoolOp .Or (xb :: xc :: r) p) && (isBor a).isNone && (isBor b).isNone
    | _ => false
  | mc, n + 1, lv, sc, .ite t a b, x => match x with
    | .IfExp xt xa xb _ => mQ mc n lv sc t xt && mE mc n lv sc a xa && mE mc n lv sc b xb && (isBor a).isNone && (isBor b).isNone
    | _ => false
  | mc, n + 1, lv, sc, .ix a b, x => match x with
    | .Subscript xa xb _ => noSl xb && mE mc n lv sc a xa && mE mc n lv sc b xb && (isBor b).isNone
    | _ => false
  | mc, n + 1, lv, sc, .sl a lo hi, x => match x with
    | .Subscript xa (.Slice xl xh none _) _ => mE mc n lv sc a xa && mO mc n lv sc lo xl && mO mc n lv sc hi xh
    | _ => false
  | mc, n + 1, lv, sc, .rev a, x => match x with
    | .Subscript xa (.Slice none none (some (.UnaryOp .USub (.Constant (.int 1) _ _) _)) _) _ => mE mc n lv sc a xa
    | _ => false
  | mc, n + 1, lv, sc, .cal f es, x => mF mc n lv sc (.cal f es) x || mC mc n lv sc false f es x
  | mc, n + 1, lv, sc, .lst es, x => mF mc n lv sc (.lst es) x
  | mc, n + 1, lv, sc, .cmpr e tg own it cd, x => mF mc n lv sc (.cmpr e tg own it cd) x
  | mc, n + 1, lv, sc, .b1 b a, x => match b, x with
    | .sset, .Call (.Name x _) [.Call (.Name y _) [xa] [] _] [] _ => decide (x = ("sorted" : Str)) && decide (y = ("set" : Str)) && glB sc x && glB sc y && noStar xa && mE mc n lv sc a xa
    | b, .Call (.Name x _) [xa] [] _ => b1B b && decide (x = b1N b) && glB sc x && noStar xa && mE mc n lv sc a xa
    | _, _ => false
  | mc, n + 1, lv, sc, .lockd i e, x => mc.M i && mE (mc.lck i) n lv sc e x && (isBor e).isNone
  | mc, n + 1, lv, sc, .sdf i a b, x => match x with
    | .Call (.Attribute (.Name y _) nm ap) [xa, xb] [] cp => decide (nm = ("setdefault" : Str)) && (ap.endLine == cp.line) && mNm mc sc i y && mc.M i && noStar xa && noStar xb && mE mc n lv sc a xa && (isBor a).isNone && mE mc n lv sc b xb && (isBor b).isNone
    | _ => false
  | mc, n + 1, lv, sc, .isi a t, x => match x with
    | .Call (.Name x _) [xa, .Name y _] [] _ => decide (x = ("isinstance" : Str)) && decide (y = (tyS t : Str)) && glB sc x && glB sc y && noStar xa && mE mc n lv sc a xa
    | _ => false
  | mc, n + 1, lv, sc, .m0 m a, x => match m, x with
    | .upper, .Call (.Attribute xa nm ap) [] [] cp => decide (nm = ("upper" : Str)) && noSup xa && (ap.endLine == cp.line) && mE mc n lv sc a xa && (isBor a).isNone
    | _, _ => false
  | mc, n + 1, lv, sc, .m1 m a b, x => match x with
    | .Call (.Attribute xa nm ap) [xb] [] cp => (match m with | .get => false | _ => true) && decide (nm = mN m) && noSup xa && noStar xb && (ap.endLine == cp.line) && mE mc n lv sc a xa && (isBor a).isNone && mE mc n lv sc b xb
    | _ => false
  | mc, n + 1, lv, sc, .mm0 m i, x => match m, x with
    | .pop, .Call (.Attribute (.Name y _) nm ap) [] [] cp => decide (nm = ("pop" : Str)) && (ap.endLine == cp.line) && mNm mc sc i y && mc.M i
    | _, _ => false
  | mc, n + 1, lv, sc, .mm1 m i a, x => match x with
    | .Call (.Attribute (.Name y _) nm ap) [xa] [] cp => decide (nm = mmN m) && (ap.endLine == cp.line) && mNm mc sc i y && mc.M i && noStar xa && mE mc n lv sc a xa && (match m with | .append => (isBor a).isNone | _ => true)
    | _ => false
  | mc, n + 1, lv, sc, .gin g neg a, x => match x with
    | .Compare xa [op] [.Name y _] _ => (if neg then isCop .nin op else isCop .isin op) && glB sc y && okName y && decide ((y, g) ∈ mc.gd) && mE mc n lv sc a xa && (isBor a).isNone
    | _ => false
  | mc, n + 1, lv, sc, .gget g a, x => match x with
    | .Subscript (.Name y _) xa _ => noSl xa && glB sc y && okName y && decide ((y, g) ∈ mc.gd) && mE mc n lv sc a xa && (isBor a).isNone
    | _ => false
  | mc, n + 1, _, _, _, _ => false
def mEs : MC → Nat → Bool → Scope → Exs → List Expr → Bool
  | mc, 0, _, _, _, _ => false
  | mc, n + 1, lv, sc, .nil, xs => xs.isEmpty
  | mc, n + 1, lv, sc, .cons e es, xs => match xs with
    | x :: xs => noStar x && mE mc n lv sc e x && mEs mc n lv sc es xs
    | [] => false
def mO : MC → Nat → Bool → Scope → Ex → Option Expr → Bool
  | mc, 0, _, _, _, _ => false
  | mc, n + 1, lv, sc, .nop, x => match x with
    | none => true
    | some _ => false
  | mc, n + 1, lv, sc, e, x => match x with
    | none => false
    | some x => mE mc n lv sc e x && (isBor e).isNone
/-- a call of a def of the text; fresh: one that returns a new cell -/
def mC : MC → Nat → Bool → Scope → Bool → Nat → Exs → Expr → Bool
  | mc, 0, _, _, _, _, _, _ => false
  | mc, n + 1, lv, sc, fr, f, es, x => match x with
    | .Call (.Name y _) xs [] _ => glB sc y && okName y && decide ((y, f) ∈ mc.fs) && xs.all noStar && mEs mc n lv sc es xs && decide ((bors es).Nodup) && (match mc.fns[f]? with
      | some F => (F.fresh == fr) && argsOk F.io es && decide (F.io.length = F.np)
      | none => false)
    | _ => false
/-- a form that makes a new cell -/
def mF : MC → Nat → Bool → Scope → Ex → Expr → Bool
  | mc, 0, _, _, _, _ => false
  | mc, n + 1, lv, sc, .lst es, x => match x with
    | .List xs _ => mEs mc n lv sc es xs && allClean es
    | _ => false
  | mc, n + 1, lv, sc, .cal f es, x => mC mc n lv sc true f es x
  | mc, n + 1, lv, sc, .dct t ks vs, x => match t, ks, vs, x with
    | false, .nil, .nil, .Dict [] [] _ => true
    | _, _, _, _ => false
  | mc, n + 1, lv, sc, .cmpr e tg own it cd, x => match x with
    | .ListComp elt [⟨tx, iter, ifs, 0⟩] scope _ => mL mc n lv sc e tg own it cd elt tx iter ifs scope
    | _ => false
  | mc, n + 1, _, _, _, _ => false
/-- a comprehension -/
def mL : MC → Nat → Bool → Scope → Ex → Tg → List Nat → PD.It → Ex → Expr → Expr → Expr → List Expr → Scope → Bool
  | mc, 0, _, _, _, _, _, _, _, _, _, _, _, _ => false
  | mc, n + 1, lv, sc, e, tg, own, it, cd, elt, tx, iter, ifs, scope => mWk mc n lv sc it tx iter && blkC mc.N sc scope (ownOf mc.N own) && (own.all fun i => !mc.M i) && ((tgSlots tg).all fun i => decide (i ∈ own)) && (isBor cd).isNone && (isBor e).isNone && noSet iter &&
      mTg mc false (relS scope sc) tg tx && mE mc n false (relS scope sc) e elt && (match ifs with
      | [] => (match cd with | .bl true => true | _ => false)
      | [c] => mQ mc n false (relS scope sc) cd c
      | _ => false)
/-- a test -/
def mQ : MC → Nat → Bool → Scope → Ex → Expr → Bool
  | mc, 0, _, _, _, _ => false
  | mc, n + 1, lv, sc, e, x => match e, x with
    | .nt a, .UnaryOp .Not xa _ => mQ mc n lv sc a xa
    | .cmp o a b, .Compare xa [op] [xb] _ => isCop o op && noSet xb && mE mc n lv sc a xa && mE mc n lv sc b xb
    | .gin g neg a, .Compare xa [op] [.Name y _] _ => (if neg then isCop .nin op else isCop .isin op) && glB sc y && okName y && decide ((y, g) ∈ mc.gd) && mE mc n lv sc a xa && (isBor a).isNone
    | .an a b, .BoolOp .And xs p => mW mc n lv sc (.an a b) (.BoolOp .And xs p)
    | .orr a b, .BoolOp .Or xs p => mW mc n lv sc (.orr a b) (.BoolOp .Or xs p)
    | e, x => noTest x && mE mc n lv sc e x
/-- and, or as a test -/
def mW : MC → Nat → Bool → Scope → Ex → Expr → Bool
  | mc, 0, _, _, _, _ => false
  | mc, n + 1, lv, sc, .an a b, x => match x with
    | .BoolOp .And [xa, xb] _ => mQ mc n lv sc a xa && mQ mc n lv sc b xb && (isBor a).isNone && (isBor b).isNone
    | .BoolOp .And (xa :: xb :: xc :: r) p => mQ mc n lv sc a xa && mW mc n lv sc b (.BoolOp .And (xb :: xc :: r) p) && (isBor a).isNone && (isBor b).isNone
    | _ => false
  | mc, n + 1, lv, sc, .orr a b, x => match x with
    | .BoolOp .Or [xa, xb] _ => mQ mc n lv sc a xa && mQ mc n lv sc b xb && (isBor a).isNone && (isBor b).isNone
    | .BoolOp .Or (xa :: xb :: xc :: r) p => mQ mc n lv sc a xa && mW mc n lv sc b (.BoolOp .Or (xb :: xc :: r) p) && (isBor a).isNone && (isBor b).isNone
    | _ => false
  | mc, n + 1, _, _, _, _ => false
/-- what is walked -/
def mWk : MC → Nat → Bool → Scope → PD.It → Expr → Expr → Bool
  | mc, 0, _, _, _, _, _ => false
  | mc, n + 1, lv, sc, .ex e, tx, x => mE mc n lv sc e x && (isBor e).isNone
  | mc, n + 1, lv, sc, .rng1 a, tx, x => match x with
    | .Call (.Name y _) [xa] [] _ => decide (y = ("range" : Str)) && glB sc y && noStar xa && mE mc n lv sc a xa && (isBor a).isNone
    | _ => false
  | mc, n + 1, lv, sc, .rng2 a b, tx, x => match x with
    | .Call (.Name y _) [xa, xb] [] _ => decide (y = ("range" : Str)) && glB sc y && noStar xa && noStar xb && mE mc n lv sc a xa && (isBor a).isNone && mE mc n lv sc b xb && (isBor b).isNone
    | _ => false
  | mc, n + 1, lv, sc, .zip a b, tx, x => match tx, x with
    | .Tuple _ _ _, .Call (.Name y _) [xa, xb] [] _ => decide (y = ("zip" : Str)) && glB sc y && noStar xa && noStar xb && mE mc n lv sc a xa && (isBor a).isNone && mE mc n lv sc b xb && (isBor b).isNone
    | _, _ => false
  | mc, n + 1, lv, sc, .enum a, tx, x => match tx, x with
    | .Tuple _ _ _, .Call (.Name y _) [xa] [] _ => decide (y = ("enumerate" : Str)) && glB sc y && noStar xa && mE mc n lv sc a xa && (isBor a).isNone
    | _, _ => false
  | mc, n + 1, _, _, _, _, _ => false
end
end PD
end

section
set_option Elab.async false
set_option linter.all false
set_option maxRecDepth 100000
set_option maxHeartbeats 4000000
/-! PD16: a match is sound: expressions -/
namespace PD
open PySem PySem.Spec PyProof.Rows L2
section
variable (mc : MC) (G : List D) (cf : Nat → List D → C) (k : Nat)
/-- what is known of a context -/
structure Cok (lv : Bool) (sc : Scope) (p : Pr) (W : WX) (X : Cx) : Prop where
  hK : X.K = p.K
  calm : X.calm = true
  N : X.N = mc.N
  nd : X.N.Nodup
  M : p.M = mc.M
  io : ∀ q ∈ p.io, q.1 ∈ mc.io
  sc : X.env.scope = sc
  fn : lv = true → ∀ x, X.fn x = true
  gd : X.A.guards = some []
  room : Room k X.A
  tk : Takes X W
  bn : ∀ x ∈ bnames, X.mg x = none
  gs : ∀ x g, (x, g) ∈ mc.gs → ∃ v u d, X.mg x = some u ∧ RelV v u ∧ G[g]? = some d ∧ ∀ H O, PD.Rep p.K p.cl H O v d
  ds : ∀ x g, (x, g) ∈ mc.gd → ∃ kvs d es n, X.mg x = some (.ref d) ∧ KDict X.K X.w d es n ∧ G[g]? = some (.dct false kvs) ∧ ∀ z : Str, ∃ r, PySem.W.nsIn X.K d z = some r ∧ match dget kvs (.str z) with
    | some c => ∃ u v, r = some u ∧ RelV v u ∧ ∀ H O, PD.Rep X.K p.cl H O v c
    | none => r = none
  fs : ∀ x f F, (x, f) ∈ mc.fs → mc.fns[f]? = some F → ∃ fa fd ps, X.mg x = some (.ref fa) ∧ PySem.W.keepIn X.K (.ref fa) = true ∧ Binds X.K fd ps [] ∧ FG X.prog X.w X.K X.mg X.base k fa fd ps (spC p.g F (cf f))
end
section
variable {mc : MC} {G : List D} {cf : Nat → List D → C} {k : Nat} {lv : Bool} {sc : Scope} {p : Pr} {W : WX} {X : Cx}
theorem bn_hv (b : B1) (h : b1B b = true) : bootBuiltins (b1N b) = some (b1V b) := by
  cases b <;> first | (decide +kernel) | (cases h)
theorem bn_name (b : B1) (h : b1B b = true) : b1N b ≠ "__name__" ∧ (b1N b == ("__debug__" : Str)) = false ∧ b1N b ∈ bnames := by
  cases b <;> first | (cases h; done) | (refine ⟨?_, ?_, ?_⟩ <;> decide +kernel)
theorem ty_hv (t : Ty) : bootBuiltins (tyS t : Str) = some (.type (tyS t)) ∧ (tyS t : Str) ≠ "__name__" ∧ ((tyS t : Str) == ("__debug__" : Str)) = false ∧ (tyS t : Str) ∈ bnames := by
  cases t <;> refine ⟨?_, ?_, ?_, ?_⟩ <;> decide +kernel
theorem isi_hv : bootBuiltins "isinstance" = some (.builtin "isinstance") := by decide +kernel
theorem Cok.units (c : Cok mc G cf k lv sc p W X) : X.A.units + 70 < cLine := by
  have := c.room.un
  omega
theorem Cok.nm (c : Cok mc G cf k lv sc p W X) {i : Nat} {x : Str} (h : mNm mc sc i x = true) : X.N[i]? = some x ∧ Vis X.env.scope x ∧ (x == ("__debug__" : Str)) = false ∧ (x == ("__classdict__" : Str)) = false := by
  unfold mNm visB okName at h
  simp only [Bool.and_eq_true, decide_eq_true_eq, Bool.not_eq_true'] at h
  obtain ⟨⟨h1, h2⟩, h3, h4⟩ := h
  refine ⟨by rw [c.N]; exact h1, ?_, h3, h4⟩
  rw [c.sc]
  unfold Vis
  split at h2
  · rename_i e; exact .inl e
  · rename_i e; exact .inr (.inl e)
  · rename_i e; exact .inr (.inr e)
  · cases h2
theorem Cok.gl (c : Cok mc G cf k lv sc p W X) {x : Str} (h : glB sc x = true) : Gl X x := by
  unfold glB at h
  show X.env.scope.names.lookup x = some .globalImplicit
  rw [c.sc]
  split at h
  · assumption
  · cases h
theorem Cok.tg (c : Cok mc G cf k lv sc p W X) {x : Str} (h : tgB lv sc x = true) : L2.Loc X.env.scope x ∧ (X.fn x = true ∨ X.env.scope.names.lookup x = some .local) := by
  unfold tgB at h
  unfold L2.Loc
  rw [c.sc]
  split at h
  · rename_i e; exact ⟨.inl e, .inr e⟩
  · rename_i e; exact ⟨.inr e, .inl (c.fn h x)⟩
  · cases h
theorem Cok.bname (c : Cok mc G cf k lv sc p W X) {b : B1} {x : Str} (h : b1B b = true) (e : x = b1N b) (g : glB sc x = true) : BName X (b1N b) (b1V b) := by
  obtain ⟨h1, h2, h3⟩ := bn_name b h
  exact ⟨c.gl (e ▸ g), c.bn _ h3, bn_hv b h, h1, h2⟩
theorem Cok.tname (c : Cok mc G cf k lv sc p W X) {t : Ty} {x : Str} (e : x = (tyS t : Str)) (g : glB sc x = true) : BName X x (.type (tyS t)) := by
  obtain ⟨h0, h1, h2, h3⟩ := ty_hv t
  subst e
  exact ⟨c.gl g, c.bn _ h3, h0, h1, h2⟩
theorem okN1 {x : Str} (h : okName x = true) : (x == ("__debug__" : Str)) = false := by
  unfold okName at h
  simp only [Bool.and_eq_true, Bool.not_eq_true'] at h
  exact h.1
theorem Cok.gdict (c : Cok mc G cf k lv sc p W X) {y : Str} {g : Nat} (h1 : glB sc y = true) (h2 : okName y = true) (h3 : (y, g) ∈ mc.gd) : ∃ kvs d es n, GDict X p.cl y kvs d es n ∧ G[g]? = some (.dct false kvs) := by
  obtain ⟨kvs, d, es, n, e1, e2, e3, e4⟩ := c.ds y g h3
  exact ⟨kvs, d, es, n, ⟨c.gl h1, e1, okN1 h2, e2, e4⟩, e3⟩
theorem Cok.z (c : Cok mc G cf k lv sc p W X) (D : Addr) (scope : Scope) (s : Shared) (H : Hp) (C : Addr) (cl : List (Str × Addr)) (fp : List Addr) : Cok mc G cf k false (relS scope sc) (p.z D) Wno (X.blk s H scope (compEnvC scope cl C X.env) fp) where
  hK := c.hK
  calm := c.calm
  N := c.N
  nd := c.nd
  M := c.M
  io := c.io
  sc := by rw [← c.sc]; rfl
  fn := fun h => by cases h
  gd := c.gd
  room := c.room
  tk := fun _ _ x => by
    obtain ⟨_, _, _, _, _, _, _, _, _, _, _, _, _, _, _, _, w⟩ := x
    exact w.elim
  bn := c.bn
  gs := c.gs
  ds := c.ds
  fs := c.fs
theorem Cok.lck (c : Cok mc G cf k lv sc p W X) (i : Nat) (a : Addr) : Cok (mc.lck i) G cf k lv sc (p.lck i a) W X where
  hK := c.hK
  calm := c.calm
  N := c.N
  nd := c.nd
  M := by
    have := c.M
    funext j
    show (if j = i then false else p.M j) = if j = i then false else mc.M j
    rw [this]
  io := fun q hq => c.io q (List.mem_filter.mp hq).1
  sc := c.sc
  fn := c.fn
  gd := c.gd
  room := c.room
  tk := c.tk
  bn := c.bn
  gs := c.gs
  ds := c.ds
  fs := c.fs
theorem noneOf {e : Ex} (h : (isBor e).isNone = true) : isBor e = none := by
  cases q : isBor e with
  | none => rfl
  | some _ => rw [q] at h; cases h
theorem Cok.target (c : Cok mc G cf k lv sc p W X) {tg : Tg} {x : Expr} (h : mTg mc lv sc tg x = true) : SG p X tg x := by
  have one : ∀ {i : Nat} {y : Str}, (decide (mc.N[i]? = some y) && tgB lv sc y && !mc.M i) = true → X.N[i]? = some y ∧ L2.Loc X.env.scope y ∧ (X.fn y = true ∨ X.env.scope.names.lookup y = some .local) ∧ p.M i = false := fun {i y} h => by
    simp only [Bool.and_eq_true, decide_eq_true_eq, Bool.not_eq_true'] at h
    obtain ⟨⟨h1, h2⟩, h3⟩ := h
    obtain ⟨h4, h5⟩ := c.tg h2
    exact ⟨by rw [c.N]; exact h1, h4, h5, by rw [c.M]; exact h3⟩
  have many : ∀ (is : List Nat) (xs : List Expr), mTg.go mc lv sc is xs = true → SGs p X is xs ∧ (assignEach xs X.env).length = is.length ∧ (assignEach xs X.env).findIdx? (·.1) = none := by
    intro is
    induction is with
    | nil =>
      intro xs h
      cases xs with
      | nil => exact ⟨sgs_nil, rfl, rfl⟩
      | cons _ _ => simp [mTg.go] at h
    | cons i is ih =>
      intro xs h
      cases xs with
      | nil => simp [mTg.go] at h
      | cons x xs =>
        cases x with
        | Name y pos =>
          have h : ((decide (mc.N[i]? = some y) && tgB lv sc y && !mc.M i) && mTg.go mc lv sc is xs) = true := h
          rw [Bool.and_eq_true] at h
          obtain ⟨h1, h2, h3, h4⟩ := one h.1
          obtain ⟨g1, g2, g3⟩ := ih xs h.2
          refine ⟨sgs_cons c.nd h1 h2 h3 h4 g1, by show (assignEach xs X.env).length + 1 = _; rw [g2]; rfl, ?_⟩
          show List.findIdx? (fun x => x.1) ((false, assign (.Name y pos) X.env) :: assignEach xs X.env) = none
          rw [List.findIdx?_cons]
          simp [g3]
        | _ => simp [mTg.go] at h
  cases tg with
  | nm i =>
    cases x with
    | Name y pos =>
      obtain ⟨h1, h2, h3, h4⟩ := one h
      exact sg_nm c.nd h1 h2 h3 h4
    | _ => simp [mTg] at h
  | tp is =>
    cases x with
    | Tuple xs kt pos =>
      obtain ⟨g1, g2, g3⟩ := many is xs h
      exact sg_tp c.calm g1 g2 g3
    | _ => simp [mTg] at h

/-! ### the statements, by fuel -/
variable (mc G cf k) in
def QE (n : Nat) : Prop := ∀ lv sc p W X, Cok mc G cf k lv sc p W X → ∀ e x, mE mc n lv sc e x = true → SE p W X G cf e x
variable (mc G cf k) in
def QEs (n : Nat) : Prop := ∀ lv sc p W X, Cok mc G cf k lv sc p W X → ∀ es xs, mEs mc n lv sc es xs = true → SA p W X G cf es xs
variable (mc G cf k) in
def QO (n : Nat) : Prop := ∀ lv sc p W X, Cok mc G cf k lv sc p W X → ∀ e x, mO mc n lv sc e x = true → SO p W X G cf e x
variable (mc G cf k) in
def QC (n : Nat) : Prop := ∀ lv sc p W X, Cok mc G cf k lv sc p W X → ∀ fr f es x, mC mc n lv sc fr f es x = true → if fr = true then SF p W X G cf (.cal f es) x else SE p W X G cf (.cal f es) x
variable (mc G cf k) in
def QF (n : Nat) : Prop := ∀ lv sc p W X, Cok mc G cf k lv sc p W X → ∀ e x, mF mc n lv sc e x = true → SF p W X G cf e x ∧ isBor e = none
variable (mc G cf k) in
def QT (n : Nat) : Prop := ∀ lv sc p W X, Cok mc G cf k lv sc p W X → ∀ e x, mQ mc n lv sc e x = true → ST p W X G cf e x
variable (mc G cf k) in
def QW (n : Nat) : Prop := ∀ lv sc p W X, Cok mc G cf k lv sc p W X → ∀ e x, mW mc n lv sc e x = true → SW p W X G cf e x
variable (mc G cf k) in
def QI (n : Nat) : Prop := ∀ lv sc p W X, Cok mc G cf k lv sc p W X → ∀ it tx x, mWk mc n lv sc it tx x = true → SI p W X G cf it tx x
/-- a comprehension's parts -/
structure Lok (G : List D) (cf : Nat → List D → C) (own : List (Str × Nat)) (p : Pr) (W : WX) (X : Cx) (e : Ex) (tg : Tg) (it : PD.It) (cd : Ex) (elt tx iter : Expr) (ifs : List Expr) (scope : Scope) : Prop where
  hi : SI p W X G cf it tx iter
  ok : BlkOk X.N X.env.scope scope own
  m : ∀ i ∈ own.map (·.2), p.M i = false
  hs : ∀ i ∈ tgSlots tg, i ∈ own.map (·.2)
  nc : isBor cd = none
  ne : isBor e = none
  hg : ∀ (s : Shared) (H : Hp) (C : Addr) (cl : List (Str × Addr)) (fp : List Addr), PG (X.blk s H scope (compEnvC scope cl C X.env) fp) tx (gOf X.K tg)
  ht : ∀ (s : Shared) (H : Hp) (C : Addr) (cl : List (Str × Addr)) (fp : List Addr), PTs (X.blk s H scope (compEnvC scope cl C X.env) fp) ifs (tTb p G cf cd)
  he : ∀ (s : Shared) (H : Hp) (C : Addr) (cl : List (Str × Addr)) (fp : List Addr), PE (X.blk s H scope (compEnvC scope cl C X.env) fp) elt (tEb p G cf e)
  hf : ∀ x, foldedSetIterable iter X.env x = pure x
variable (mc G cf k) in
def QL (n : Nat) : Prop := ∀ lv sc p W X, Cok mc G cf k lv sc p W X → ∀ e tg own it cd elt tx iter ifs scope, mL mc n lv sc e tg own it cd elt tx iter ifs scope = true → ∃ o, o = ownOf mc.N own ∧ o.map (·.2) = own ∧ Lok G cf o p W X e tg it cd elt tx iter ifs scope
end
end PD
end

section
set_option Elab.async false
set_option linter.all false
set_option maxRecDepth 100000
set_option maxHeartbeats 4000000
/-! PD17: the steps of the soundness proof -/
namespace PD
open PySem PySem.Spec PyProof.Rows L2
section
variable {mc : MC} {G : List D} {cf : Nat → List D → C} {k : Nat} {n : Nat}
theorem step_s (hE : QE mc G cf k n) (hS : QEs mc G cf k n) : QEs mc G cf k (n + 1) := fun lv sc p W X c es xs h => by
  cases es with
  | nil =>
    simp only [mEs] at h
    cases xs with
    | nil => exact sa_nil
    | cons _ _ => cases h
  | cons e es =>
    simp only [mEs] at h
    cases xs with
    | nil => cases h
    | cons x xs =>
      simp only [Bool.and_eq_true] at h
      exact sa_cons (hE _ _ _ _ _ c e x h.1.2) (hS _ _ _ _ _ c es xs h.2) (star_of h.1.1)
theorem step_o (hE : QE mc G cf k n) : QO mc G cf k (n + 1) := fun lv sc p W X c e x h => by
  cases x with
  | none => cases e <;> first | exact so_none | (simp [mO] at h; done)
  | some y => cases e <;> first | (simp [mO] at h; done) | (simp only [mO, Bool.and_eq_true] at h; exact so_some (hE _ _ _ _ _ c _ y h.1) (noneOf h.2) (fun d => by cases d <;> rfl))
theorem step_c (hS : QEs mc G cf k n) : QC mc G cf k (n + 1) := fun lv sc p W X c fr f es x h => by
  simp only [mC] at h
  split at h
  · rename_i y p1 xs pos
    simp only [Bool.and_eq_true, decide_eq_true_eq] at h
    obtain ⟨⟨⟨⟨⟨⟨h1, h2⟩, h3⟩, h4⟩, h5⟩, h6⟩, h7⟩ := h
    cases eF : mc.fns[f]? with
    | none => rw [eF] at h7; cases h7
    | some F =>
      rw [eF] at h7
      simp only [Bool.and_eq_true, decide_eq_true_eq, beq_iff_eq] at h7
      obtain ⟨⟨f1, f2⟩, f3⟩ := h7
      obtain ⟨fa, fd, ps, g1, g2, g3, g4⟩ := c.fs y f F h3 eF
      have sa := hS _ _ _ _ _ c es xs h5
      have mk : ∀ ρ, PE X (.Call (.Name y p1) xs [] pos) (tCal (spC p.g F (cf f)) W (tA p W es ρ (evs G cf es ρ))) := fun ρ => by
        cases xs with
        | nil =>
          have e0 : es = .nil := by
            cases es with
            | nil => rfl
            | cons e es => cases n <;> simp [mEs] at h5
          subst e0
          refine pe_imp (pe_cal0 g4 c.gd c.room (c.gl h1) g1 g2 g3 c.tk (okN1 h2)) fun σ H Q q => ?_
          obtain ⟨Wr, r, q⟩ := q
          simp only [evs] at q
          exact q [] H r Fr.refl trivial
        | cons x0 xs =>
          rw [List.all_cons, Bool.and_eq_true] at h4
          exact pe_cal g4 c.gd c.room (c.gl h1) g1 g2 g3 c.tk (sa ρ) (okN1 h2) (star_of h4.1) (star_all h4.2)
      cases fr with
      | true => rw [if_pos rfl]; exact sf_cal f1 f2 h6 f3 mk
      | false => rw [if_neg Bool.false_ne_true]; exact s_cal f1 f2 h6 f3 mk
  · cases h
theorem step_f (hS : QEs mc G cf k n) (hC : QC mc G cf k n) (hL : QL mc G cf k n) : QF mc G cf k (n + 1) := fun lv sc p W X c e x h => by
  cases e with
  | lst es =>
    simp only [mF] at h
    split at h
    · rw [Bool.and_eq_true] at h
      exact ⟨sf_lst (hS _ _ _ _ _ c es _ h.1) h.2, rfl⟩
    · cases h
  | cal f es =>
    simp only [mF] at h
    have := hC _ _ _ _ _ c true f es x h
    rw [if_pos rfl] at this
    exact ⟨this, rfl⟩
  | dct t ks vs =>
    simp only [mF] at h
    split at h
    · exact ⟨sf_dct0, rfl⟩
    · cases h
  | cmpr e tg own it cd =>
    simp only [mF] at h
    split at h
    · obtain ⟨o, _, e1, l⟩ := hL _ _ _ _ _ c e tg own it cd _ _ _ _ _ h
      subst e1
      exact ⟨sf_cmpr c.hK c.calm c.nd l.hi l.ok l.m l.hs l.nc l.ne l.hg l.ht l.he l.hf, rfl⟩
    · cases h
  | _ => simp [mF] at h
theorem own_map (N : List Str) : ∀ own : List Nat, (ownOf N own).map (·.2) = own
  | [] => rfl
  | i :: own => by
    show i :: (ownOf N own).map (·.2) = i :: own
    rw [own_map N own]
theorem step_l (hE : QE mc G cf k n) (hT : QT mc G cf k n) (hI : QI mc G cf k n) : QL mc G cf k (n + 1) := fun lv sc p W X c e tg own it cd elt tx iter ifs scope h => by
  simp only [mL, Bool.and_eq_true] at h
  obtain ⟨⟨⟨⟨⟨⟨⟨⟨⟨h1, h2⟩, h3⟩, h4⟩, h5⟩, h6⟩, h7⟩, h8⟩, h9⟩, h10⟩ := h
  refine ⟨ownOf mc.N own, rfl, own_map _ own, hI _ _ _ _ _ c it tx iter h1, ?_, fun i hi => ?_, fun i hi => ?_, noneOf h5, noneOf h6, fun s H C cl fp => ?_, fun s H C cl fp => ?_, fun s H C cl fp => ?_, fun x => fold_of h7⟩
  · rw [c.N, c.sc]
    exact blkOk_by h2
  · rw [own_map] at hi
    have := List.all_eq_true.mp h3 i hi
    rw [c.M]
    simpa using this
  · rw [own_map]
    have := List.all_eq_true.mp h4 i hi
    simpa using this
  · exact ((c.z 0 scope s H C cl fp).target h8).1
  · cases ifs with
    | nil =>
      simp only at h10
      split at h10
      · exact pts_b0
      · cases h10
    | cons t r =>
      cases r with
      | nil => exact pts_b1 fun D => hT _ _ _ _ _ (c.z D scope s H C cl fp) cd t h10
      | cons _ _ => cases h10
  · exact pe_b fun D => hE _ _ _ _ _ (c.z D scope s H C cl fp) e elt h9
theorem step_w (hT : QT mc G cf k n) (hW : QW mc G cf k n) : QW mc G cf k (n + 1) := fun lv sc p W X c e x h => by
  cases e with
  | an a b =>
    simp only [mW] at h
    split at h
    · simp only [Bool.and_eq_true] at h
      exact w_and (hT _ _ _ _ _ c a _ h.1.1.1) (noneOf h.1.2) (noneOf h.2) (w_one_and (hT _ _ _ _ _ c b _ h.1.1.2))
    · simp only [Bool.and_eq_true] at h
      exact w_and (hT _ _ _ _ _ c a _ h.1.1.1) (noneOf h.1.2) (noneOf h.2) (hW _ _ _ _ _ c b _ h.1.1.2)
    · cases h
  | orr a b =>
    simp only [mW] at h
    split at h
    · simp only [Bool.and_eq_true] at h
      exact w_or (hT _ _ _ _ _ c a _ h.1.1.1) (noneOf h.1.2) (noneOf h.2) (w_one_or (hT _ _ _ _ _ c b _ h.1.1.2))
    · simp only [Bool.and_eq_true] at h
      exact w_or (hT _ _ _ _ _ c a _ h.1.1.1) (noneOf h.1.2) (noneOf h.2) (hW _ _ _ _ _ c b _ h.1.1.2)
    · cases h
  | _ => simp [mW] at h
theorem step_t (hE : QE mc G cf k n) (hT : QT mc G cf k n) (hW : QW mc G cf k n) : QT mc G cf k (n + 1) := fun lv sc p W X c e x h => by
  simp only [mQ] at h
  split at h
  · exact t_not c.hK (hT _ _ _ _ _ c _ _ h)
  · simp only [Bool.and_eq_true] at h
    obtain ⟨⟨⟨h1, h2⟩, h3⟩, h4⟩ := h
    have := isCop_eq h1
    subst this
    exact t_cmp c.hK c.units (hE _ _ _ _ _ c _ _ h3) (hE _ _ _ _ _ c _ _ h4) (set_of h2)
  · rename_i g neg a xa op y p1 pos
    simp only [Bool.and_eq_true, decide_eq_true_eq] at h
    obtain ⟨⟨⟨⟨⟨h1, h2⟩, h3⟩, h4⟩, h5⟩, h6⟩ := h
    obtain ⟨kvs, d, es, m, gd, hG⟩ := c.gdict h2 h3 h4
    cases neg with
    | true =>
      have := isCop_eq (o := .nin) h1
      subst this
      exact t_gin (neg := true) gd hG (hE _ _ _ _ _ c _ _ h5) (noneOf h6) rfl
    | false =>
      have := isCop_eq (o := .isin) h1
      subst this
      exact t_gin (neg := false) gd hG (hE _ _ _ _ _ c _ _ h5) (noneOf h6) rfl
  · exact w_t (hW _ _ _ _ _ c _ _ h)
  · exact w_t (hW _ _ _ _ _ c _ _ h)
  · rw [Bool.and_eq_true] at h
    exact t_plain c.hK (hE _ _ _ _ _ c _ _ h.2) (test_of h.1)
theorem step_i (hE : QE mc G cf k n) : QI mc G cf k (n + 1) := fun lv sc p W X c it tx x h => by
  cases it with
  | ex e =>
    simp only [mWk, Bool.and_eq_true] at h
    exact si_ex c.hK (hE _ _ _ _ _ c e x h.1) (noneOf h.2)
  | rng1 a =>
    simp only [mWk] at h
    split at h
    · simp only [Bool.and_eq_true, decide_eq_true_eq] at h
      obtain ⟨⟨⟨⟨h1, h2⟩, h3⟩, h4⟩, h5⟩ := h
      subst h1
      exact si_rng1 (c.gl h2) (c.bn _ (by decide +kernel)) (hE _ _ _ _ _ c _ _ h4) (noneOf h5) (star_of h3)
    · cases h
  | rng2 a b =>
    simp only [mWk] at h
    split at h
    · simp only [Bool.and_eq_true, decide_eq_true_eq] at h
      obtain ⟨⟨⟨⟨⟨⟨⟨h1, h2⟩, h3⟩, h4⟩, h5⟩, h6⟩, h7⟩, h8⟩ := h
      subst h1
      exact si_rng2 (c.gl h2) (c.bn _ (by decide +kernel)) (hE _ _ _ _ _ c _ _ h5) (noneOf h6) (hE _ _ _ _ _ c _ _ h7) (noneOf h8) (by rw [star_of h3, star_of h4]; rfl) (star_of h4) (star_of h3)
    · cases h
  | zip a b =>
    simp only [mWk] at h
    split at h
    · simp only [Bool.and_eq_true, decide_eq_true_eq] at h
      obtain ⟨⟨⟨⟨⟨⟨⟨h1, h2⟩, h3⟩, h4⟩, h5⟩, h6⟩, h7⟩, h8⟩ := h
      subst h1
      exact si_zip c.hK (c.gl h2) (c.bn _ (by decide +kernel)) (hE _ _ _ _ _ c _ _ h5) (noneOf h6) (hE _ _ _ _ _ c _ _ h7) (noneOf h8) (by rw [star_of h3, star_of h4]) (star_of h4)
    · cases h
  | enum a =>
    simp only [mWk] at h
    split at h
    · simp only [Bool.and_eq_true, decide_eq_true_eq] at h
      obtain ⟨⟨⟨⟨h1, h2⟩, h3⟩, h4⟩, h5⟩ := h
      subst h1
      exact si_enum c.hK (c.gl h2) (c.bn _ (by decide +kernel)) (hE _ _ _ _ _ c _ _ h4) (noneOf h5) (star_of h3)
    · cases h
  | _ => simp [mWk] at h
end
end PD
end

section
set_option Elab.async false
set_option linter.all false
set_option maxRecDepth 100000
set_option maxHeartbeats 4000000
/-! PD18: a match is sound: expressions, all forms -/
namespace PD
open PySem PySem.Spec PyProof.Rows L2
section
variable {mc : MC} {G : List D} {cf : Nat → List D → C} {k : Nat} {n : Nat}
theorem m1_of {X : Cx} {o e : Expr} {m : Str} {ap cp : Pos} (h1 : noSup o = true) (h2 : (ap.endLine == cp.line) = true) (h3 : noStar e = true) : M1 X o m ap e cp := by
  have hs : starEach [e] X.env = (false, eval e X.env) :: starEach [] X.env := star_of h3
  refine ⟨sup_of h1, ?_, h2, ?_⟩
  · rw [hs]; rfl
  · rw [hs]; rfl
theorem m2_of {X : Cx} {o e f : Expr} {m : Str} {ap cp : Pos} (h1 : noSup o = true) (h2 : (ap.endLine == cp.line) = true) (h3 : noStar e = true) (h4 : noStar f = true) : M2 X o m ap e f cp := by
  have hs : starEach [e, f] X.env = (false, eval e X.env) :: starEach [f] X.env := star_of h3
  have ht : starEach [f] X.env = (false, eval f X.env) :: starEach [] X.env := star_of h4
  refine ⟨sup_of h1, ?_, h2, ?_⟩
  · rw [hs, ht]; rfl
  · rw [hs, ht]; rfl
theorem step_e (hX : ∀ mc', QE mc' G cf k n) (hE : QE mc G cf k n) (hS : QEs mc G cf k n) (hO : QO mc G cf k n) (hC : QC mc G cf k n) (hF : QF mc G cf k n) (hT : QT mc G cf k n) : QE mc G cf k (n + 1) := fun lv sc p W X c e x h => by
  have E := fun e x h => hE _ _ _ _ _ c e x h
  cases e with
  | var i =>
    simp only [mE] at h
    split at h
    · simp only [Bool.and_eq_true, Bool.not_eq_true'] at h
      obtain ⟨h1, h2, h3, h4⟩ := c.nm h.1
      exact s_var h1 h2 (by rw [c.M]; exact h.2) h3 h4
    · cases h
  | bor i =>
    simp only [mE] at h
    split at h
    · simp only [Bool.and_eq_true] at h
      obtain ⟨h1, h2, h3, h4⟩ := c.nm h.1
      exact s_bor h1 h2 (by rw [c.M]; exact h.2) h3 h4
    · cases h
  | non =>
    simp only [mE] at h
    split at h
    · exact s_non
    · cases h
  | bl b =>
    simp only [mE] at h
    split at h
    · rw [beq_iff_eq] at h
      subst h
      exact s_bl
    · cases h
  | int i =>
    simp only [mE] at h
    split at h
    · rw [decide_eq_true_eq] at h
      subst h
      exact s_int
    · cases h
  | str z =>
    simp only [mE] at h
    split at h
    · rw [decide_eq_true_eq] at h
      subst h
      exact s_str
    · cases h
  | nop => simp [mE] at h
  | glo g =>
    simp only [mE] at h
    split at h
    · simp only [Bool.and_eq_true, decide_eq_true_eq] at h
      obtain ⟨⟨h1, h2⟩, h3⟩ := h
      obtain ⟨v, u, d, e1, e2, e3, e4⟩ := c.gs _ _ h3
      exact s_glo (c.gl h1) e1 e2 e3 e4 (okN1 h2)
    · cases h
  | tup es =>
    simp only [mE] at h
    split at h
    · rw [Bool.and_eq_true] at h
      exact s_tup (hS _ _ _ _ _ c es _ h.1) h.2
    · cases h
  | lst es =>
    simp only [mE] at h
    obtain ⟨h1, h2⟩ := hF _ _ _ _ _ c _ x h
    exact se_of_sf h1 h2
  | dct t ks vs =>
    simp only [mE] at h
    split at h
    · exact s_dct0
    · simp only [Bool.and_eq_true, decide_eq_true_eq] at h
      obtain ⟨h1, h2⟩ := h
      subst h1 h2
      exact s_dct1
    · cases h
  | bin o a b =>
    simp only [mE] at h
    split at h
    · simp only [Bool.and_eq_true] at h
      have := isOp_eq h.1.1
      subst this
      exact s_bin c.hK (E _ _ h.1.2) (E _ _ h.2)
    · cases h
  | neg a =>
    simp only [mE] at h
    split at h
    · simp only [Bool.and_eq_true] at h
      exact s_neg (E _ _ h.1) (noneOf h.2)
    · cases h
  | cmp o a b =>
    simp only [mE] at h
    split at h
    · simp only [Bool.and_eq_true] at h
      have := isCop_eq h.1.1.1
      subst this
      exact s_cmp c.hK c.units (E _ _ h.1.2) (E _ _ h.2) (set_of h.1.1.2)
    · cases h
  | chn o o' a b cc =>
    simp only [mE] at h
    split at h
    · simp only [Bool.and_eq_true] at h
      obtain ⟨⟨⟨⟨⟨h1, h2⟩, h3⟩, h4⟩, h5⟩, h6⟩ := h
      have e1 := isCop_eq h1
      have e2 := isCop_eq h2
      subst e1 e2
      exact s_chn c.hK c.units (E _ _ h4) (E _ _ h5) (E _ _ h6) (show behindInMarks _ _ = false from set_of h3)
    · cases h
  | nt a =>
    simp only [mE] at h
    split at h
    · exact s_nt c.hK (E _ _ h)
    · cases h
  | an a b =>
    simp only [mE] at h
    split at h
    · simp only [Bool.and_eq_true] at h
      exact s_an c.hK (E _ _ h.1.1.1) (noneOf h.1.2) (noneOf h.2) (s_one (E _ _ h.1.1.2))
    · simp only [Bool.and_eq_true] at h
      exact s_an c.hK (E _ _ h.1.1.1) (noneOf h.1.2) (noneOf h.2) (E _ _ h.1.1.2)
    · cases h
  | orr a b =>
    simp only [mE] at h
    split at h
    · simp only [Bool.and_eq_true] at h
      exact s_orr c.hK (E _ _ h.1.1.1) (noneOf h.1.2) (noneOf h.2) (s_one (E _ _ h.1.1.2))
    · simp only [Bool.and_eq_true] at h
      exact s_orr c.hK (E _ _ h.1.1.1) (noneOf h.1.2) (noneOf h.2) (E _ _ h.1.1.2)
    · cases h
  | ite t a b =>
    simp only [mE] at h
    split at h
    · simp only [Bool.and_eq_true] at h
      obtain ⟨⟨⟨⟨h1, h2⟩, h3⟩, h4⟩, h5⟩ := h
      exact s_ite (hT _ _ _ _ _ c _ _ h1) (E _ _ h2) (E _ _ h3) (noneOf h4) (noneOf h5)
    · cases h
  | ix a b =>
    simp only [mE] at h
    split at h
    · simp only [Bool.and_eq_true] at h
      exact s_ix c.hK c.units (E _ _ h.1.1.2) (E _ _ h.1.2) (noneOf h.2) (sl_of h.1.1.1)
    · cases h
  | sl a lo hi =>
    simp only [mE] at h
    split at h
    · simp only [Bool.and_eq_true] at h
      exact s_sl c.hK (E _ _ h.1.1) (hO _ _ _ _ _ c _ _ h.1.2) (hO _ _ _ _ _ c _ _ h.2)
    · cases h
  | rev a =>
    simp only [mE] at h
    split at h
    · exact s_rev c.hK (E _ _ h)
    · cases h
  | cal f es =>
    simp only [mE, Bool.or_eq_true] at h
    rcases h with h | h
    · obtain ⟨h1, h2⟩ := hF _ _ _ _ _ c _ x h
      exact se_of_sf h1 h2
    · have := hC _ _ _ _ _ c false f es x h
      rwa [if_neg Bool.false_ne_true] at this
  | lockd i e =>
    simp only [mE, Bool.and_eq_true] at h
    obtain ⟨⟨h1, h2⟩, h3⟩ := h
    exact s_lockd (by rw [c.M]; exact h1) (fun a => hX _ _ _ _ _ _ (c.lck i a) _ _ h2) (noneOf h3)
  | sdf i a b =>
    simp only [mE] at h
    split at h
    · simp only [Bool.and_eq_true, decide_eq_true_eq] at h
      obtain ⟨⟨⟨⟨⟨⟨⟨⟨⟨h1, h2⟩, h3⟩, h4⟩, h5⟩, h6⟩, h7⟩, h8⟩, h9⟩, h10⟩ := h
      subst h1
      obtain ⟨g1, g2, g3, g4⟩ := c.nm h3
      exact s_sdf g1 g2 (by rw [c.M]; exact h4) g3 g4 (E _ _ h7) (noneOf h8) (E _ _ h9) (noneOf h10) (m2_of rfl h2 h5 h6)
    · cases h
  | b1 b a =>
    simp only [mE] at h
    split at h
    · simp only [Bool.and_eq_true, decide_eq_true_eq] at h
      obtain ⟨⟨⟨⟨⟨h1, h2⟩, h3⟩, h4⟩, h5⟩, h6⟩ := h
      subst h1 h2
      have he := E _ _ h6
      intro ρ
      simp only [evE]
      exact pe_sst c.hK c.calm ⟨c.gl h3, c.bn _ (by decide +kernel), by decide +kernel, by decide +kernel, by decide +kernel⟩ ⟨c.gl h4, c.bn _ (by decide +kernel), by decide +kernel, by decide +kernel, by decide +kernel⟩ he (star_of h5) rfl rfl rfl _ rfl ρ
    · simp only [Bool.and_eq_true, decide_eq_true_eq] at h
      obtain ⟨⟨⟨⟨h1, h2⟩, h3⟩, h4⟩, h5⟩ := h
      have bn := c.bname h1 h2 h3
      subst h2
      have he := E _ _ h5
      cases b with
      | repr => exact s_repr c.hK c.gd c.units bn he (star_of h4) rfl
      | len => exact s_b1B c.hK c.calm nofun nofun nofun rfl bn he (star_of h4) rfl
      | abs => exact s_b1B c.hK c.calm nofun nofun nofun rfl bn he (star_of h4) rfl
      | all => exact s_b1B c.hK c.calm nofun nofun nofun rfl bn he (star_of h4) rfl
      | any => exact s_b1B c.hK c.calm nofun nofun nofun rfl bn he (star_of h4) rfl
      | int => exact s_b1T c.hK c.calm nofun nofun nofun rfl bn he (star_of h4) rfl
      | str => exact s_b1T c.hK c.calm nofun nofun nofun rfl bn he (star_of h4) rfl
      | tuple => exact s_b1T c.hK c.calm nofun nofun nofun rfl bn he (star_of h4) rfl
      | list => exact s_b1T c.hK c.calm nofun nofun nofun rfl bn he (star_of h4) rfl
      | sorted =>
        intro ρ
        simp only [evE]
        exact pe_srt c.hK bn he (star_of h4) rfl ρ
      | sset => cases h1
      | sum => cases h1
      | max => cases h1
      | min => cases h1
    · cases h
  | b2 b a c2 => simp [mE] at h
  | isi a t =>
    simp only [mE] at h
    split at h
    · simp only [Bool.and_eq_true, decide_eq_true_eq] at h
      obtain ⟨⟨⟨⟨⟨h1, h2⟩, h3⟩, h4⟩, h5⟩, h6⟩ := h
      subst h1
      exact s_isi c.hK (E _ _ h6) ⟨c.gl h3, c.bn _ (by decide +kernel), isi_hv, by decide +kernel, by decide +kernel⟩ (c.tname h2 h4) (star_of h5) rfl rfl
    · cases h
  | m0 m a =>
    simp only [mE] at h
    split at h
    · simp only [Bool.and_eq_true, decide_eq_true_eq] at h
      obtain ⟨⟨⟨⟨h1, h2⟩, h3⟩, h4⟩, h5⟩ := h
      subst h1
      exact s_up c.hK (E _ _ h4) (noneOf h5) (sup_of h2) h3
    · cases h
  | m1 m a b =>
    simp only [mE] at h
    split at h
    · simp only [Bool.and_eq_true, decide_eq_true_eq] at h
      obtain ⟨⟨⟨⟨⟨⟨⟨h0, h1⟩, h2⟩, h3⟩, h4⟩, h5⟩, h6⟩, h7⟩ := h
      subst h1
      exact s_m1 c.hK c.units (fun z => by rw [z] at h0; cases h0) (E _ _ h5) (noneOf h6) (E _ _ h7) (m1_of h2 h4 h3) (star_of h3) rfl
    · cases h
  | m2 m a b c2 => simp [mE] at h
  | mm0 m i =>
    simp only [mE] at h
    split at h
    · simp only [Bool.and_eq_true, decide_eq_true_eq] at h
      obtain ⟨⟨⟨h1, h2⟩, h3⟩, h4⟩ := h
      subst h1
      obtain ⟨g1, g2, g3, g4⟩ := c.nm h3
      exact s_pop g1 g2 (by rw [c.M]; exact h4) g3 g4 rfl h2
    · cases h
  | mm1 m i a =>
    simp only [mE] at h
    split at h
    · simp only [Bool.and_eq_true, decide_eq_true_eq] at h
      obtain ⟨⟨⟨⟨⟨⟨h1, h2⟩, h3⟩, h4⟩, h5⟩, h6⟩, h7⟩ := h
      subst h1
      obtain ⟨g1, g2, g3, g4⟩ := c.nm h3
      exact mm_step (x := .Name "" default) g1 g2 (by rw [c.M]; exact h4) g3 g4 c.hK (E _ _ h6) (fun z => by rw [z] at h7; exact noneOf h7) (m1_of rfl h2 h5) (star_of h5) rfl
    · cases h
  | cmpr e tg own it cd =>
    simp only [mE] at h
    obtain ⟨h1, h2⟩ := hF _ _ _ _ _ c _ x h
    exact se_of_sf h1 h2
  | gin g neg a =>
    simp only [mE] at h
    split at h
    · simp only [Bool.and_eq_true, decide_eq_true_eq] at h
      obtain ⟨⟨⟨⟨⟨h1, h2⟩, h3⟩, h4⟩, h5⟩, h6⟩ := h
      obtain ⟨kvs, d, es, m, gd, hG⟩ := c.gdict h2 h3 h4
      cases neg with
      | true =>
        have := isCop_eq (o := .nin) h1
        subst this
        exact s_gin (neg := true) gd hG (E _ _ h5) (noneOf h6) rfl
      | false =>
        have := isCop_eq (o := .isin) h1
        subst this
        exact s_gin (neg := false) gd hG (E _ _ h5) (noneOf h6) rfl
    · cases h
  | gget g a =>
    simp only [mE] at h
    split at h
    · simp only [Bool.and_eq_true, decide_eq_true_eq] at h
      obtain ⟨⟨⟨⟨⟨h1, h2⟩, h3⟩, h4⟩, h5⟩, h6⟩ := h
      obtain ⟨kvs, d, es, m, gd, hG⟩ := c.gdict h2 h3 h4
      exact s_gget c.hK gd hG (E _ _ h5) (noneOf h6) (sl_of h1)
    · cases h
/-- all of them -/
structure Qall (mc : MC) (G : List D) (cf : Nat → List D → C) (k n : Nat) : Prop where
  e : QE mc G cf k n
  s : QEs mc G cf k n
  o : QO mc G cf k n
  c : QC mc G cf k n
  f : QF mc G cf k n
  t : QT mc G cf k n
  w : QW mc G cf k n
  i : QI mc G cf k n
  l : QL mc G cf k n
theorem sound : ∀ n mc, Qall mc G cf k n
  | 0, mc => ⟨fun _ _ _ _ _ _ e x h => by cases e <;> simp [mE] at h, fun _ _ _ _ _ _ e x h => by cases e <;> simp [mEs] at h, fun _ _ _ _ _ _ e x h => by cases e <;> simp [mO] at h, fun _ _ _ _ _ _ _ _ _ _ h => by simp [mC] at h, fun _ _ _ _ _ _ e x h => by cases e <;> simp [mF] at h,
      fun _ _ _ _ _ _ e x h => by simp [mQ] at h, fun _ _ _ _ _ _ e x h => by cases e <;> simp [mW] at h, fun _ _ _ _ _ _ it tx x h => by cases it <;> simp [mWk] at h, fun _ _ _ _ _ _ _ _ _ _ _ _ _ _ _ _ h => by simp [mL] at h⟩
  | n + 1, mc =>
    let q := sound n mc
    ⟨step_e (fun mc' => (sound n mc').e) q.e q.s q.o q.c q.f q.t, step_s q.e q.s, step_o q.e, step_c q.s, step_f q.s q.c q.l, step_t q.e q.t q.w, step_w q.t q.w, step_i q.e, step_l q.e q.t q.i⟩
end
end PD
end

section
set_option Elab.async false
set_option linter.all false
set_option maxRecDepth 100000
set_option maxHeartbeats 4000000
/-! PD19: does a text match: statements -/
namespace PD
open PySem PySem.Spec PyProof.Rows L2
theorem sws_of {tx x : Expr} {l : Nat} {env : PySem.Env} (h : noComp x = true) : swapsWithSole [tx] x l env = pure false := comp_of h
theorem sst_name {y : Str} {py : Pos} {x : Expr} {env : PySem.Env} : swappedStores [.Name y py] x env = pure none := by
  cases x <;> rfl
theorem sst_sub {o i : Expr} {py : Pos} {x : Expr} {env : PySem.Env} : swappedStores [.Subscript o i py] x env = pure none := by
  cases x <;> rfl
def noTup : Expr → Bool
  | .Tuple .. => false
  | _ => true
theorem sst_tup {xs : List Expr} {kt : Nat} {py : Pos} {x : Expr} {env : PySem.Env} (h : noTup x = true) : swappedStores [.Tuple xs kt py] x env = pure none := by
  cases x <;> first | rfl | cases h
theorem asg1 {tx : Expr} {env : PySem.Env} (h : noStar tx = true) : (assignEach [tx] env).map (·.2) = [assign tx env] := by
  cases tx <;> first | rfl | cases h
theorem sub_asg {X : Cx} {y : Str} {po p2 : Pos} {xk : Expr} (h : noSl xk = true) {i : Nat} (t : TE) (pg : PE X (.Name y po) (tVar i)) (pk : PE X xk t) : PG X (.Subscript (.Name y po) xk p2) (gSub (tVar i) t rSetL) := pg_sub pg pk set_list (by
  intro v
  cases xk <;> first | rfl | cases h)
theorem par_of {x y : Str} {px py pt pt2 : Pos} {kt k2 : Nat} {a b : Expr} {env : PySem.Env} (hf : env.scope.kind = .function) (hx : env.scope.names.lookup x = some .local) (hy : env.scope.names.lookup y = some .local) (hl : px.line = py.line) (hne : x ≠ y) (sa : noStar a = true) (sb : noStar b = true) (hc : (constantsAlone 8 a && constantsAlone 8 b) = false) (hc2 : (foldedForSure 8 a && foldedForSure 8 b) = false) :
    swappedStores [.Tuple [.Name x px, .Name y py] kt pt] (.Tuple [a, b] k2 pt2) env = pure (some [x, y]) := by
  have kx : env.kindOf x = some .local := hx
  have ky : env.kindOf y = some .local := hy
  have hb : env.blockKind = .function := by unfold Env.blockKind; rw [hf]; rfl
  have e1 : (some NameKind.local == some NameKind.local) = true := by decide
  have e2 : (px.line == py.line) = true := by rw [hl]; exact beq_self_eq_true _
  have e3 : (y == x) = false := beq_eq_false_iff_ne.mpr fun z => hne z.symm
  have hd : [x, y].eraseDups = [x, y] := by
    simp [List.eraseDups_cons, e3]
  unfold swappedStores
  simp [hb, kx, ky, hl, hd, List.all_cons, hc, hc2, Expr.pos]
  intro h
  exfalso
  rcases h with h | h
  · cases a <;> first | (cases sa; done) | (cases h)
  · cases b <;> first | (cases sb; done) | (cases h)

def isIo (mc : MC) (i : Nat) : Bool := decide (i ∈ mc.io)
def locB (sc : Scope) (x : Str) : Bool :=
  match sc.names.lookup x with
  | some .local => true
  | _ => false
/-- some target is no plain local -/
def someCell (sc : Scope) (xs : List Expr) : Bool := xs.any fun
  | .Name x _ => !locB sc x
  | _ => true
theorem fm_lt {α β : Type} {f : α → Option β} : ∀ {l : List α}, (∃ x ∈ l, f x = none) → (l.filterMap f).length < l.length
  | [], h => by obtain ⟨_, h, _⟩ := h; cases h
  | a :: l, h => by
    have le : (l.filterMap f).length ≤ l.length := List.length_filterMap_le f l
    rw [List.filterMap_cons]
    obtain ⟨x, hx, e⟩ := h
    rcases List.mem_cons.mp hx with z | z
    · subst z
      rw [e]
      simp only [List.length_cons]
      omega
    · have := fm_lt (f := f) (l := l) ⟨x, z, e⟩
      cases f a <;> simp only [List.length_cons] <;> omega
theorem sst_cell {xs vs : List Expr} {kt k2 : Nat} {py p2 : Pos} {env : PySem.Env} (h : someCell env.scope xs = true) : swappedStores [.Tuple xs kt py] (.Tuple vs k2 p2) env = pure none := by
  have lt : ∀ line : Nat, (xs.filterMap fun
    | .Name id pos => if env.kindOf id == some .local && pos.line == line then some id else none
    | _ => none).length < xs.length := fun line => by
    unfold someCell at h
    obtain ⟨x, hx, e⟩ := List.any_eq_true.mp h
    refine fm_lt ⟨x, hx, ?_⟩
    cases x with
    | Name id pos =>
      have e : (!locB env.scope id) = true := e
      have e : locB env.scope id = false := by simpa using e
      have k : (env.kindOf id == some .local) = false := by
        show (env.scope.names.lookup id == some .local) = false
        unfold locB at e
        split at e
        · cases e
        · rename_i ne
          cases q : env.scope.names.lookup id with
          | none => rfl
          | some kk => cases kk <;> first | rfl | (exact (ne q).elim)
      simp [k]
    | _ => rfl
  unfold swappedStores
  simp only [pure_bind]
  split
  · rfl
  · split
    · rfl
    · have := lt ((xs.head?.map (·.pos.line)).getD 0)
      split
      · rfl
      · rename_i hn
        exfalso
        apply hn
        rw [Bool.or_eq_true]
        left
        rw [bne_iff_ne]
        exact Nat.ne_of_lt this
def asgShape (sc : Scope) (tx x : Expr) : Bool :=
  match tx with
  | .Name .. => true
  | .Tuple xs _ _ => noTup x || someCell sc xs
  | _ => false
abbrev LF := Ex → Tg → List Nat → PD.It → Ex → Expr → Expr → Expr → List Expr → Scope → Bool
def mLc (f : LF) (sc : Scope) (y : Str) (py : Pos) (e : Ex) (x : Expr) : Bool :=
  match e, x with
  | .cmpr e tg own it cd, .ListComp elt [⟨tx, iter, ifs, 0⟩] scope p2 => locB sc y && (py.line == p2.line) && !(scope.names.any fun (n, k) => n == y && (k == .local || k == .cell)) && f e tg own it cd elt tx iter ifs scope
  | _, _ => false
def mAsgLc (mc : MC) (f : LF) (sc : Scope) (tg : Tg) (tx : Expr) (e : Ex) (x : Expr) : Bool :=
  match tg, tx with
  | .nm i, .Name y py => decide (mc.N[i]? = some y) && !mc.M i && mLc f sc y py e x
  | _, _ => false
/-- the same over an own dict -/
def mAsgLk (mc : MC) (f : Nat → LF) (sc : Scope) (tg : Tg) (tx : Expr) (e : Ex) (x : Expr) : Bool :=
  match tg, tx, e with
  | .nm i, .Name y py, .lockd d e => decide (mc.N[i]? = some y) && !mc.M i && mc.M d && (match e with
      | .cmpr _ _ own _ _ => own.all fun j => !mc.M j
      | _ => false) && mLc (f d) sc y py e x
  | _, _, _ => false
mutual
def mS (mc : MC) (fr : Bool) : Nat → Scope → Sm → Stmt → Bool
  | 0, _, _, _ => false
  | n + 1, sc, .asg tg e, st => match st with
    | .Assign [tx] x pos => (noComp x && noStar tx && asgShape sc tx x && mTg mc true sc tg tx && mE mc n true sc e x && (isBor e).isNone) || mAsgLc mc (mL mc n true sc) sc tg tx e x || mAsgLk mc (fun d => mL (mc.lck d) n true sc) sc tg tx e x
    | _ => false
  | n + 1, sc, .own i e, st => match st with
    | .Assign [.Name y py] x pos => decide (mc.N[i]? = some y) && mc.M i && !isIo mc i && ((noComp x && tgB true sc y && mF mc n true sc e x) || mLc (mL mc n true sc) sc y py e x)
    | _ => false
  | n + 1, sc, .par is es, st => match is, es, st with
    | [i, j], .cons a (.cons b .nil), .Assign [.Tuple [.Name x px, .Name y py] _ _] (.Tuple [xa, xb] _ _) pos => (someCell sc [.Name x px, .Name y py] && decide (mc.N[i]? = some x) && decide (mc.N[j]? = some y) && tgB true sc x && tgB true sc y && noStar xa && noStar xb && mc.M i && mc.M j && !isIo mc i && !isIo mc j && mF mc n true sc a xa && emptyE b xb) || (decide (mc.N[i]? = some x) && decide (mc.N[j]? = some y) && decide (i ≠ j) && locB sc x && locB sc y && decide (px.line = py.line) && decide (x ≠ y) && noStar xa && noStar xb &&
        !(constantsAlone 8 xa && constantsAlone 8 xb) && !(foldedForSure 8 xa && foldedForSure 8 xb) && ((!mc.M i && !mc.M j && mEs mc n true sc es [xa, xb] && (isBor a).isNone && (isBor b).isNone) || (mc.M i && mc.M j && !isIo mc i && !isIo mc j && mF mc n true sc a xa && emptyE b xb)))
    | _, _, _ => false
  | n + 1, sc, .setix i k e, st => match st with
    | .Assign [.Subscript (.Name y po) xk p2] x pos => noComp x && noSl xk && mNm mc sc i y && mc.M i && mE mc n true sc k xk && (isBor k).isNone && mE mc n true sc e x && (isBor e).isNone
    | _ => false
  | n + 1, sc, .expr e, st => match st with
    | .Expr x _ => noComp x && mE mc n true sc e x
    | _ => false
  | n + 1, sc, .ite c a b, st => match st with
    | .If x xa xb _ => mQ mc n true sc c x && mSs mc fr n sc a xa && mSs mc fr n sc b xb
    | _ => false
  | n + 1, sc, .whl c b, st => match st with
    | .While x xb [] _ => mQ mc n true sc c x && (isBor c).isNone && mSs mc fr n sc b xb
    | _ => false
  | n + 1, sc, .fr tg it b, st => match st with
    | .For tx x xb [] _ => noSet x && mTg mc true sc tg tx && mWk mc n true sc it tx x && mSs mc fr n sc b xb
    | _ => false
  | n + 1, sc, .ret e, st => match st with
    | .Return (some x) _ => if fr then mF mc n true sc e x else mE mc n true sc e x && (isBor e).isNone
    | _ => false
  | n + 1, sc, .retN, st => match st with
    | .Return none _ => !fr
    | _ => false
  | n + 1, sc, .retO i, st => match st with
    | .Return (some (.Name y _)) _ => mNm mc sc i y && mc.M i && !isIo mc i
    | _ => false
  | n + 1, sc, .pass, st => match st with
    | .Pass _ => true
    | _ => false
  | n + 1, sc, .brk, st => match st with
    | .Break _ => true
    | _ => false
  | n + 1, sc, .cnt, st => match st with
    | .Continue _ => true
    | _ => false
  | n + 1, sc, _, st => false
def mSs (mc : MC) (fr : Bool) : Nat → Scope → Sms → List Stmt → Bool
  | 0, _, _, _ => false
  | n + 1, sc, .nil, sts => sts.isEmpty
  | n + 1, sc, .cons s ss, sts => match sts with
    | st :: sts => mS mc fr n sc s st && mSs mc fr n sc ss sts
    | [] => false
end
section
variable {mc : MC} {G : List D} {cf : Nat → List D → C} {k : Nat} {wf : Nat} {fr : Bool}
variable (mc G cf k fr) in
structure CokS (sc : Scope) (p : Pr) (W : WX) (X : Cx) : Prop where
  c : Cok mc G cf k true sc p W X
  hp : PassesOwn (model X.prog X.w) X.A X.env X.xe
  kind : X.env.scope.kind = .function
  fresh : p.fresh = fr
theorem nio_of {sc : Scope} {p : Pr} {W : WX} {X : Cx} (c : CokS mc G cf k fr sc p W X) {i : Nat} (h : isIo mc i = false) : ∀ b, (i, b) ∉ p.io := fun b hb => by
  have := c.c.io _ hb
  unfold isIo at h
  simp [this] at h
theorem loc_of {sc : Scope} {p : Pr} {W : WX} {X : Cx} (c : CokS mc G cf k fr sc p W X) {x : Str} (h : locB sc x = true) : X.env.scope.names.lookup x = some .local := by
  unfold locB at h
  rw [c.c.sc]
  split at h
  · assumption
  · cases h
theorem mLc_of {f : LF} {sc : Scope} {y : Str} {py : Pos} {e : Ex} {x : Expr} (h : mLc f sc y py e x = true) : ∃ tg e2 own it cd elt tx iter ifs scope p2, e = .cmpr e2 tg own it cd ∧ x = .ListComp elt [⟨tx, iter, ifs, 0⟩] scope p2 ∧ locB sc y = true ∧ (py.line == p2.line) = true ∧
    (scope.names.any fun (n, k) => n == y && (k == .local || k == .cell)) = false ∧ f e2 tg own it cd elt tx iter ifs scope = true := by
  unfold mLc at h
  split at h
  · simp only [Bool.and_eq_true, Bool.not_eq_true'] at h
    obtain ⟨⟨⟨h1, h2⟩, h3⟩, h4⟩ := h
    exact ⟨_, _, _, _, _, _, _, _, _, _, _, rfl, rfl, h1, h2, h3, h4⟩
  · cases h
structure Sall (mc : MC) (G : List D) (cf : Nat → List D → C) (k wf : Nat) (fr : Bool) (n : Nat) : Prop where
  s : ∀ sc p W X, CokS mc G cf k fr sc p W X → ∀ s st, mS mc fr n sc s st = true → SS p W X G cf wf s st
  ss : ∀ sc p W X, CokS mc G cf k fr sc p W X → ∀ s st, mSs mc fr n sc s st = true → SSs p W X G cf wf s st
theorem stmt_step {n : Nat} (qX : ∀ mc', Qall mc' G cf k n) (q : Qall mc G cf k n) (h : Sall mc G cf k wf fr n) : ∀ sc p W X, CokS mc G cf k fr sc p W X → ∀ s st, mS mc fr (n + 1) sc s st = true → SS p W X G cf wf s st := fun sc p W X c s st hm => by
  have hc := c.c
  have E := fun e x h => q.e _ _ _ _ _ hc e x h
  cases s with
  | asg tg e =>
    simp only [mS] at hm
    split at hm
    · rename_i tx x pos
      rw [Bool.or_eq_true, Bool.or_eq_true] at hm
      rcases hm with (hm | hm) | hm
      · simp only [Bool.and_eq_true] at hm
        obtain ⟨⟨⟨⟨⟨h1, h2⟩, h3⟩, h4⟩, h5⟩, h6⟩ := hm
        refine ss_asg hc.hK (E _ _ h5) (noneOf h6) (hc.target h4) (sws_of h1) ?_ (asg1 h2)
        unfold asgShape at h3
        split at h3
        · exact sst_name
        · rename_i xs kt pt
          rw [Bool.or_eq_true] at h3
          rcases h3 with h3 | h3
          · exact sst_tup h3
          · cases x <;> first | rfl | exact sst_cell (by rw [hc.sc]; exact h3)
        · cases h3
      · unfold mAsgLc at hm
        split at hm
        · rename_i i y py
          simp only [Bool.and_eq_true, decide_eq_true_eq, Bool.not_eq_true'] at hm
          obtain ⟨⟨h1, h3⟩, h2⟩ := hm
          obtain ⟨tg2, e2, own2, it2, cd2, elt2, tx2, iter2, ifs2, scope2, p2, rfl, rfl, g1, g2, g3, g4⟩ := mLc_of h2
          obtain ⟨o, _, e1, l⟩ := q.l _ _ _ _ _ hc _ _ _ _ _ _ _ _ _ _ g4
          subst e1
          exact ss_lc hc.hK hc.calm hc.nd (by rw [hc.N]; exact h1) (loc_of c g1) (sw_true c.kind (loc_of c g1) g2 g3) l.hi l.ok l.m l.hs l.nc l.ne l.hg l.ht l.he l.hf _ (.inl ⟨rfl, by rw [hc.M]; exact h3⟩)
        · cases hm
      · unfold mAsgLk at hm
        split at hm
        · rename_i i y py d e
          simp only [Bool.and_eq_true, decide_eq_true_eq, Bool.not_eq_true'] at hm
          obtain ⟨⟨⟨⟨h1, h3⟩, hd⟩, ho⟩, h2⟩ := hm
          obtain ⟨tg2, e2, own2, it2, cd2, elt2, tx2, iter2, ifs2, scope2, p2, rfl, rfl, g1, g2, g3, g4⟩ := mLc_of h2
          have L := fun a => (qX (mc.lck d)).l _ _ _ _ _ (hc.lck d a) _ _ _ _ _ _ _ _ _ _ g4
          have L : ∀ a, (ownOf mc.N own2).map (·.2) = own2 ∧ Lok G cf (ownOf mc.N own2) (p.lck d a) W X e2 tg2 it2 cd2 elt2 tx2 iter2 ifs2 scope2 := fun a => by
            obtain ⟨o, e0, e1, l⟩ := L a
            subst e0
            exact ⟨e1, l⟩
          have e1 := (L 0).1
          have l := fun a => (L a).2
          have l0 := l 0
          rw [← e1]
          refine ss_lcL hc.hK hc.calm hc.nd (by rw [hc.N]; exact h1) (loc_of c g1) (sw_true c.kind (loc_of c g1) g2 g3) (by rw [hc.M]; exact hd) (fun a => (l a).hi) l0.ok (fun j hj => ?_) l0.hs l0.nc l0.ne l0.hg (fun a => (l a).ht) (fun a => (l a).he) l0.hf (by rw [hc.M]; exact h3)
          rw [e1] at hj
          have := List.all_eq_true.mp ho j hj
          rw [hc.M]
          simpa using this
        · cases hm
    · cases hm
  | own i e =>
    simp only [mS] at hm
    split at hm
    · rename_i y py x pos
      simp only [Bool.and_eq_true, decide_eq_true_eq, Bool.not_eq_true', Bool.or_eq_true] at hm
      obtain ⟨⟨⟨h1, h2⟩, h3⟩, h4⟩ := hm
      rcases h4 with ⟨⟨h4, h5⟩, h6⟩ | h4
      · obtain ⟨t1, t2⟩ := hc.tg h5
        exact ss_own (q.f _ _ _ _ _ hc _ _ h6).1 hc.nd (by rw [hc.N]; exact h1) t1 t2 (by rw [hc.M]; exact h2) (nio_of c h3) (sws_of h4) sst_name
      · obtain ⟨tg2, e2, own2, it2, cd2, elt2, tx2, iter2, ifs2, scope2, p2, rfl, rfl, g1, g2, g3, g4⟩ := mLc_of h4
        obtain ⟨o, _, e1, l⟩ := q.l _ _ _ _ _ hc _ _ _ _ _ _ _ _ _ _ g4
        subst e1
        exact ss_lc hc.hK hc.calm hc.nd (by rw [hc.N]; exact h1) (loc_of c g1) (sw_true c.kind (loc_of c g1) g2 g3) l.hi l.ok l.m l.hs l.nc l.ne l.hg l.ht l.he l.hf _ (.inr ⟨rfl, by rw [hc.M]; exact h2, nio_of c h3⟩)
    · cases hm
  | par is es =>
    simp only [mS] at hm
    split at hm
    · rw [Bool.or_eq_true] at hm
      rcases hm with hm | hm
      · simp only [Bool.and_eq_true, decide_eq_true_eq, Bool.not_eq_true'] at hm
        obtain ⟨⟨⟨⟨⟨⟨⟨⟨⟨⟨⟨⟨h1, h2⟩, h3⟩, h4⟩, h5⟩, h6⟩, h7⟩, m1⟩, m2⟩, m3⟩, m4⟩, m5⟩, m6⟩ := hm
        obtain ⟨t1, t2⟩ := hc.tg h4
        obtain ⟨t3, t4⟩ := hc.tg h5
        exact ss_parT hc.calm hc.nd (by rw [hc.N]; exact h2) (by rw [hc.N]; exact h3) t1 t2 t3 t4 (by rw [hc.M]; exact m1) (by rw [hc.M]; exact m2) (nio_of c m3) (nio_of c m4) (q.f _ _ _ _ _ hc _ _ m5).1 m6 (star_of h6) (star_of h7) (sst_cell (by rw [hc.sc]; exact h1)) (sws_of rfl)
      · simp only [Bool.and_eq_true, decide_eq_true_eq, Bool.not_eq_true'] at hm
        obtain ⟨⟨⟨⟨⟨⟨⟨⟨⟨⟨⟨h1, h2⟩, h3⟩, h4⟩, h5⟩, h6⟩, h7⟩, h8⟩, h9⟩, h10⟩, h11⟩, hm⟩ := hm
        rw [Bool.or_eq_true] at hm
        rcases hm with hm | hm
        · simp only [Bool.and_eq_true, Bool.not_eq_true'] at hm
          obtain ⟨⟨⟨⟨h12, h13⟩, h14⟩, h15⟩, h16⟩ := hm
          exact ss_par2 hc.calm hc.nd (by rw [hc.N]; exact h1) (by rw [hc.N]; exact h2) h3 (loc_of c h4) (loc_of c h5) (by rw [hc.M]; exact h12) (by rw [hc.M]; exact h13) (q.s _ _ _ _ _ hc _ _ h14) (noneOf h15) (noneOf h16) (par_of c.kind (loc_of c h4) (loc_of c h5) h6 h7 h8 h9 h10 h11) (sws_of rfl)
        · simp only [Bool.and_eq_true, Bool.not_eq_true'] at hm
          obtain ⟨⟨⟨⟨⟨m1, m2⟩, m3⟩, m4⟩, m5⟩, m6⟩ := hm
          exact ss_parO hc.calm hc.nd (by rw [hc.N]; exact h1) (by rw [hc.N]; exact h2) h3 (loc_of c h4) (loc_of c h5) (by rw [hc.M]; exact m1) (by rw [hc.M]; exact m2) (nio_of c m3) (nio_of c m4) (q.f _ _ _ _ _ hc _ _ m5).1 m6 (star_of h8) (star_of h9) (par_of c.kind (loc_of c h4) (loc_of c h5) h6 h7 h8 h9 h10 h11) (sws_of rfl)
    · cases hm
  | setix i k e =>
    simp only [mS] at hm
    split at hm
    · simp only [Bool.and_eq_true] at hm
      obtain ⟨⟨⟨⟨⟨⟨⟨h1, h2⟩, h3⟩, h4⟩, h5⟩, h6⟩, h7⟩, h8⟩ := hm
      obtain ⟨g1, g2, g3, g4⟩ := hc.nm h3
      exact ss_setix hc.hK (E _ _ h7) (noneOf h8) (E _ _ h5) (noneOf h6) g1 g2 (by rw [hc.M]; exact h4) g3 g4 (fun t pg pk => sub_asg h2 t pg pk) (sws_of h1) sst_sub
    · cases hm
  | aug i o e => simp [mS] at hm
  | expr e =>
    simp only [mS] at hm
    split at hm
    · rw [Bool.and_eq_true] at hm
      exact ss_expr (E _ _ hm.2) (comp_of hm.1)
    · cases hm
  | ite cc a b =>
    simp only [mS] at hm
    split at hm
    · simp only [Bool.and_eq_true] at hm
      exact ss_ite (q.t _ _ _ _ _ hc _ _ hm.1.1) (h.ss _ _ _ _ c _ _ hm.1.2) (h.ss _ _ _ _ c _ _ hm.2)
    · cases hm
  | whl cc b =>
    simp only [mS] at hm
    split at hm
    · simp only [Bool.and_eq_true] at hm
      exact ss_whl c.hp (q.t _ _ _ _ _ hc _ _ hm.1.1) (noneOf hm.1.2) (h.ss _ _ _ _ c _ _ hm.2)
    · cases hm
  | fr tg it b =>
    simp only [mS] at hm
    split at hm
    · simp only [Bool.and_eq_true] at hm
      obtain ⟨⟨⟨h1, h2⟩, h3⟩, h4⟩ := hm
      exact ss_for hc.hK c.hp hc.calm (q.i _ _ _ _ _ hc _ _ _ h3) (hc.target h2) (h.ss _ _ _ _ c _ _ h4) (fun v => fold_of h1)
    · cases hm
  | ret e =>
    simp only [mS] at hm
    split at hm
    · cases fr with
      | true =>
        rw [if_pos rfl] at hm
        exact ss_retF c.fresh (q.f _ _ _ _ _ hc _ _ hm).1
      | false =>
        rw [if_neg Bool.false_ne_true, Bool.and_eq_true] at hm
        exact ss_ret c.fresh (E _ _ hm.1) (noneOf hm.2)
    · cases hm
  | retN =>
    simp only [mS] at hm
    split at hm
    · exact ss_retN (by rw [c.fresh]; simpa using hm)
    · cases hm
  | retO i =>
    simp only [mS] at hm
    split at hm
    · simp only [Bool.and_eq_true, Bool.not_eq_true'] at hm
      obtain ⟨g1, g2, g3, g4⟩ := hc.nm hm.1.1
      exact ss_retO g1 g2 (by rw [hc.M]; exact hm.1.2) (nio_of c hm.2) g3 g4
    · cases hm
  | pass =>
    simp only [mS] at hm
    split at hm
    · exact ss_pass
    · cases hm
  | brk =>
    simp only [mS] at hm
    split at hm
    · exact ss_brk
    · cases hm
  | cnt =>
    simp only [mS] at hm
    split at hm
    · exact ss_cnt
    · cases hm
theorem soundS : ∀ n, Sall mc G cf k wf fr n
  | 0 => ⟨fun _ _ _ _ _ s st h => by cases s <;> simp [mS] at h, fun _ _ _ _ _ s st h => by cases s <;> simp [mSs] at h⟩
  | n + 1 => by
    have q := soundS n
    refine ⟨stmt_step (fun mc' => sound n mc') (sound n mc) q, fun sc p W X c s st h => ?_⟩
    cases s with
    | nil =>
      simp only [mSs] at h
      cases st with
      | nil => exact ss_nil
      | cons _ _ => cases h
    | cons s ss =>
      simp only [mSs] at h
      cases st with
      | nil => cases h
      | cons st sts =>
        rw [Bool.and_eq_true] at h
        exact ss_cons (q.s _ _ _ _ c _ _ h.1) (q.ss _ _ _ _ c _ _ h.2)
end
end PD
end

section
set_option Elab.async false
set_option linter.all false
set_option maxRecDepth 100000
set_option maxHeartbeats 4000000
/-! PD20: a def of the text keeps its promise -/
namespace PD
open PySem PySem.Spec PyProof.Rows L2
section
variable {K : PySem.W.Frag} {cl : Nat → Addr} {H : Hp} {Z : Addr → Prop}
theorem ArgsR.at : ∀ {io : List Bool} {vs : List V} {ds : List D}, ArgsR K cl H Z io vs ds → vs.length = io.length ∧ ds.length = io.length ∧ ∀ (i : Nat) (v : V) (d : D), vs[i]? = some v → ds[i]? = some d → (io[i]? = some true → ∃ a, v = .ref a ∧ Z a ∧ PD.Own K cl H Z a d) ∧ (io[i]? = some false → PD.Rep K cl H Z v d)
  | [], [], [], _ => ⟨rfl, rfl, fun i v d h => by simp at h⟩
  | true :: io, v :: vs, d :: ds, h => by
    obtain ⟨h1, h2, h3⟩ := ArgsR.at h.2
    refine ⟨congrArg (· + 1) h1, congrArg (· + 1) h2, fun i w e hw he => ?_⟩
    cases i with
    | zero =>
      simp at hw he
      subst hw he
      exact ⟨fun _ => h.1, fun z => by simp at z⟩
    | succ i => exact h3 i w e (by simpa using hw) (by simpa using he)
  | false :: io, v :: vs, d :: ds, h => by
    obtain ⟨h1, h2, h3⟩ := ArgsR.at h.2
    refine ⟨congrArg (· + 1) h1, congrArg (· + 1) h2, fun i w e hw he => ?_⟩
    cases i with
    | zero =>
      simp at hw he
      subst hw he
      exact ⟨fun z => by simp at z, fun _ => h.1⟩
    | succ i => exact h3 i w e (by simpa using hw) (by simpa using he)
  | [], _ :: _, _, h => h.elim
  | [], [], _ :: _, h => h.elim
  | true :: _, [], _, h => h.elim
  | false :: _, [], _, h => h.elim
  | true :: _, _ :: _, [], h => h.elim
  | false :: _, _ :: _, [], h => h.elim
end
def Fn.own (F : Fn) (i : Nat) : Bool := (F.M[i]?).getD false
def ioL (io : List Bool) (vs : List V) : List (Nat × Addr) := (List.range io.length).filterMap fun (i : Nat) => match io[i]?, vs[i]? with
  | some true, some (V.ref a) => some (i, a)
  | _, _ => none
theorem mem_ioL {io : List Bool} {vs : List V} {i : Nat} {a : Addr} : (i, a) ∈ ioL io vs ↔ io[i]? = some true ∧ vs[i]? = some (.ref a) := by
  unfold ioL
  rw [List.mem_filterMap]
  constructor
  · rintro ⟨j, _, h⟩
    split at h
    · rename_i h1 h2
      cases h
      exact ⟨h1, h2⟩
    · cases h
  · rintro ⟨h1, h2⟩
    refine ⟨i, List.mem_range.mpr (List.getElem?_eq_some_iff.mp h1).1, ?_⟩
    rw [h1, h2]
theorem io_own {F : Fn} {i : Nat} (h : F.io[i]? = some true) : F.own i = true ∧ i < F.np := by
  unfold Fn.io at h
  rw [List.getElem?_take] at h
  split at h
  · rename_i hi
    exact ⟨by unfold Fn.own; rw [h]; rfl, hi⟩
  · cases h
/-- the frame from the entry on -/
def PhiE (io : List Bool) (vs : List V) (H : Hp) : Fm := fun H' Wr' => Keep io vs H H' ∧ ∀ a, Wr' a → IoA io vs a ∨ H a = none
theorem PhiE.ok (io : List Bool) (vs : List V) (H : Hp) : Fm.Ok (PhiE io vs H) where
  step := fun {Wr H1 H2} h f => ⟨⟨fun a o n e => f.keep a o (fun z => by
      rcases h.2 a z with q | q
      · exact n q
      · rw [q] at e; cases e) (h.1.fr a o n e), fun a e => f.dom a (h.1.dom a e)⟩, h.2⟩
  grow := fun {Wr H1 H2 t} h ht f => ⟨⟨fun a o n e => f.keep a o (fun z => by
      rcases h.2 a z with q | q
      · exact n q
      · rw [q] at e; cases e) (h.1.fr a o n e), fun a e => f.dom a (h.1.dom a e)⟩, fun a z => by
      rcases z with z | z
      · exact h.2 a z
      · refine .inr ?_
        cases q : H a with
        | none => rfl
        | some o =>
          have := h.1.dom a (by rw [q]; rfl)
          rw [z, ht] at this; cases this⟩
section
variable {P : Program} {w : World} {K : PySem.W.Frag} {mg : Str → Option Value} {base : Heap} {k : Nat} {f : Addr} {name qual : Str} {params : Arguments} {body : List Stmt} {scope : Scope} {dV kV doc pm cdv ct oc : Value} {an od : Option Addr}
  {osl : Array (Option Value)} {ps : List Str} {g : Gv} {F : Fn} {G : List D} {cf : Nat → List D → C} {wf fuel : Nat} {mc : MC}
/-- what is known of the module at a level of calls -/
structure Glob (P : Program) (w : World) (K : PySem.W.Frag) (mg : Str → Option Value) (base : Heap) (k : Nat) (g : Gv) (mc : MC) (G : List D) (cf : Nat → List D → C) : Prop where
  gK : g.K = K
  bn : ∀ x ∈ bnames, mg x = none
  gs : ∀ x i, (x, i) ∈ mc.gs → ∃ v u d, mg x = some u ∧ RelV v u ∧ G[i]? = some d ∧ ∀ H O, PD.Rep K g.cl H O v d
  ds : ∀ x i, (x, i) ∈ mc.gd → ∃ kvs d es n, mg x = some (.ref d) ∧ KDict K w d es n ∧ G[i]? = some (.dct false kvs) ∧ ∀ z : Str, ∃ r, PySem.W.nsIn K d z = some r ∧ match dget kvs (.str z) with
    | some c => ∃ u v, r = some u ∧ RelV v u ∧ ∀ H O, PD.Rep K g.cl H O v c
    | none => r = none
  fs : ∀ x i F, (x, i) ∈ mc.fs → mc.fns[i]? = some F → ∃ fa fd ps, mg x = some (.ref fa) ∧ PySem.W.keepIn K (.ref fa) = true ∧ Binds K fd ps [] ∧ FG P w K mg base k fa fd ps (spC g F (cf i))
theorem fn_ok (at_ : K.lookup f = some ⟨oc, od, .func (PySem.W.fnOf name qual params body scope dV kV doc pm an cdv ct), osl⟩) (cdIn : PySem.W.codeIn K cdv qual = true) (S : FnScope mc.N ps scope) (hps : ps.length = F.np) (hns : mc.N.length = F.ns) (hio : F.io.length = F.np)
    (hM : mc.M = F.own) (hmio : ∀ i, F.io[i]? = some true → i ∈ mc.io) (gl : Glob P w K mg base k g mc G cf) (hm : mSs mc F.fresh fuel scope F.body body = true) :
    FG P w K mg base (k + 1) f (PySem.W.fnOf name qual params body scope dV kV doc pm an cdv ct) ps (spC g F (runF G cf wf F)) := by
  refine fg_of at_ cdIn S (fun vs H Q E h => ?_) fun A outer s H vs Q E gd room want => ?_
  · obtain ⟨Z, ds, h1, _⟩ := h
    rw [h1, hps]
  obtain ⟨Z, ds, hlen, hdom, hargs, hinj, hres⟩ := want
  simp only [gl.gK] at hargs hres
  obtain ⟨l1, l2, hat⟩ := hargs.at
  let p : Pr := ⟨K, g.cl, Z, mc.M, ioL F.io vs, g.xc, g.xn, H, F.fresh⟩
  let W : WX := fun cls d _ H' => E cls d H'
  let X := cxOf (L2.CX P w) P w K mg base mc.N qual scope f cdv A outer s H E
  have pg : p.g = g := by
    obtain ⟨gK, _, _, _⟩ := g
    show (⟨K, _, _, _⟩ : Gv) = _
    rw [← gl.gK]
  have ck : CokS mc G cf k F.fresh scope p W X := by
    refine ⟨⟨rfl, rfl, rfl, S.nd, rfl, fun q hq => ?_, rfl, fun _ _ => rfl, gd, room, takes_of rfl rfl rfl rfl, gl.bn, gl.gs, gl.ds, fun x i F' h1 h2 => ?_⟩, passes_of (X := X) rfl, S.kind, rfl⟩
    · obtain ⟨i, a⟩ := q
      exact hmio i (mem_ioL.mp hq).1
    · obtain ⟨fa, fd, ps', e1, e2, e3, e4⟩ := gl.fs x i F' h1 h2
      exact ⟨fa, fd, ps', e1, e2, e3, pg ▸ e4⟩
  refine ⟨_, (soundS (wf := wf) fuel).ss scope p W X ck F.body body hm, ?_⟩
  have dn : ds.length = F.np := l2.trans hio
  let ρ0 : Env := ds.map some ++ List.replicate (F.ns - F.np) none
  have lk0 : ∀ {i d}, lk ρ0 i = some d → ds[i]? = some d := fun {i d} h => by
    unfold lk at h
    by_cases hi : i < ds.length
    · rw [List.getElem?_append_left (by simpa using hi), List.getElem?_map] at h
      cases q : ds[i]? with
      | none => rw [q] at h; cases h
      | some x => rw [q] at h; simpa using h
    · rw [List.getElem?_append_right (by simpa using hi), List.getElem?_replicate] at h
      split at h <;> cases h
  have st0 : ∀ {i : Nat} {v : V}, vs[i]? = some v → (start mc.N vs)[i]? = some (some v) := fun {i v} h => by
    unfold L2.start
    have hi : i < vs.length := (List.getElem?_eq_some_iff.mp h).1
    rw [List.getElem?_append_left (by simpa using hi), List.getElem?_map, h]; rfl
  have st1 : ∀ {i : Nat} {v : V}, (start mc.N vs)[i]? = some (some v) → vs[i]? = some v := fun {i v} h => by
    unfold L2.start at h
    by_cases hi : i < vs.length
    · rw [List.getElem?_append_left (by simpa using hi), List.getElem?_map] at h
      cases q : vs[i]? with
      | none => rw [q] at h; cases h
      | some x => rw [q] at h; simpa using h
    · rw [List.getElem?_append_right (by simpa using hi), List.getElem?_replicate] at h
      split at h <;> cases h
  have vat : ∀ {i d}, ds[i]? = some d → ∃ v, vs[i]? = some v := fun {i d} h => by
    have hi : i < vs.length := by
      have := (List.getElem?_eq_some_iff.mp h).1
      omega
    exact ⟨_, List.getElem?_eq_getElem hi⟩
  have iob : ∀ {i d}, ds[i]? = some d → F.io[i]? = some (mc.M i) := fun {i d} h => by
    have hi : i < F.io.length := by
      have := (List.getElem?_eq_some_iff.mp h).1
      omega
    have e := List.getElem?_eq_getElem hi
    rw [e]
    cases q : F.io[i] with
    | true =>
      rw [q] at e
      rw [hM, (io_own e).1]
    | false =>
      rw [q] at e
      unfold Fn.io at e
      rw [List.getElem?_take] at e
      split at e
      · rw [hM]; unfold Fn.own; rw [e]; rfl
      · cases e
  have zio : ∀ a, IoA F.io vs a → Z a := fun a ⟨i, e1, e2⟩ => by
    have hi : i < ds.length := by
      have := (List.getElem?_eq_some_iff.mp e2).1
      omega
    obtain ⟨b, e3, e4, _⟩ := (hat i _ _ e2 (List.getElem?_eq_getElem hi)).1 e1
    cases e3
    exact e4
  have oz0 : ∀ a, p.O (IoA F.io vs) a → Z a := fun a z => z.elim id (zio a)
  have rel0 : Rel p ρ0 (start mc.N vs) H (IoA F.io vs) := by
    refine ⟨?_, fun a z => hdom a (oz0 a z), fun i d m e => ?_, fun i d m e => ?_, fun i j a mi mj hi hj si sj => ?_, fun q hq => ?_⟩
    · show (ds.map some ++ List.replicate (F.ns - F.np) none).length = (vs.map some ++ List.replicate (mc.N.length - vs.length) none).length
      simp only [List.length_append, List.length_map, List.length_replicate]
      rw [dn, hlen, hns]
    · have e := lk0 e
      obtain ⟨v, hv⟩ := vat e
      have h1 := iob e
      have m : mc.M i = false := m
      rw [m] at h1
      exact ⟨v, st0 hv, ((hat i v d hv e).2 h1).shrink oz0⟩
    · have e := lk0 e
      obtain ⟨v, hv⟩ := vat e
      have h1 := iob e
      have m : mc.M i = true := m
      rw [m] at h1
      obtain ⟨a, rfl, za, ow⟩ := (hat i v d hv e).1 h1
      exact ⟨a, st0 hv, ⟨i, h1, hv⟩, ow.frame rfl (fun _ _ _ e => e) (fun b _ => oz0 b), fun _ => mem_ioL.mpr ⟨h1, hv⟩⟩
    · obtain ⟨di, ei⟩ := Option.isSome_iff_exists.mp hi
      obtain ⟨dj, ej⟩ := Option.isSome_iff_exists.mp hj
      have h1 := iob (lk0 ei)
      have h2 := iob (lk0 ej)
      have mi : mc.M i = true := mi
      have mj : mc.M j = true := mj
      rw [mi] at h1
      rw [mj] at h2
      exact hinj i j a h1 h2 (st1 si) (st1 sj)
    · obtain ⟨i, a⟩ := q
      obtain ⟨e1, e2⟩ := mem_ioL.mp hq
      have hi : i < ds.length := by
        have := (List.getElem?_eq_some_iff.mp e2).1
        omega
      refine ⟨?_, ?_, st0 e2, zio a ⟨i, e1, e2⟩⟩
      · show mc.M i = true
        rw [hM]; exact (io_own e1).1
      · show (lk ρ0 i).isSome = true
        unfold lk
        rw [List.getElem?_append_left (by simpa using hi), List.getElem?_map, List.getElem?_eq_getElem hi]; rfl
  refine ⟨PhiE F.io vs H, ρ0, IoA F.io vs, PhiE.ok _ _ _, rel0, ⟨⟨fun _ _ _ e => e, fun _ e => e⟩, fun a z => .inl z⟩, ?_⟩
  -- what the end gives of the changed parameters
  have outs : ∀ {ρ σ H' Wr'} (O' : Addr → Prop), Rel p ρ σ H' Wr' → (∀ a, O' a → p.O Wr' a) → OwnR K g.cl H' O' F.io vs (ρ.take F.np) := fun {ρ σ H' Wr'} O' r ho i a e1 e2 => by
    obtain ⟨h1, h2, h3, h4⟩ := r.ioz (i, a) (mem_ioL.mpr ⟨e1, e2⟩)
    obtain ⟨d, e3⟩ := Option.isSome_iff_exists.mp h2
    obtain ⟨b, e4, _, ow, _⟩ := r.own i d h1 e3
    rw [h3] at e4
    cases e4
    refine ⟨d, ?_, ow.frame rfl (fun _ _ _ e => e) fun c _ => ho c⟩
    rw [List.getElem?_take, if_pos (io_own e1).2]
    unfold lk at e3
    cases q : ρ[i]? with
    | none => rw [q] at e3; cases e3
    | some o => rw [q] at e3; exact congrArg some e3
  unfold runF at hres
  rw [if_pos (by simpa using dn)] at hres
  show tKS p W (PhiE F.io vs H) { nx := fun _ H' => Q .non H', rt := Q } (exSs G cf wf F.body ρ0)
  cases er : exSs G cf wf F.body ρ0 with
  | no => rw [er] at hres; exact hres
  | brk ρ => rw [er] at hres; exact hres.elim
  | cnt ρ => rw [er] at hres; exact hres.elim
  | nxt ρ =>
    rw [er] at hres
    simp only at hres
    cases hf : F.fresh with
    | true => rw [hf, if_pos rfl] at hres; exact hres.elim
    | false =>
      simp only [hf, Bool.false_eq_true, if_false] at hres
      intro σ H' Wr' r ph
      exact hres .non H' ph.1 (outs Z r fun a z => .inl z) .non
  | ret d ρ =>
    rw [er] at hres
    simp only at hres
    unfold tKS
    cases hf : F.fresh with
    | true =>
      simp only [hf, if_true] at hres
      show if F.fresh = true then _ else _
      rw [if_pos hf]
      intro a σ H' Wr' r ph wa nio ow
      have na : H a = none := by
        rcases ph.2 a wa with z | z
        · obtain ⟨i, e1, e2⟩ := z
          exact (nio i (mem_ioL.mpr ⟨e1, e2⟩)).elim
        · exact z
      have sub : ∀ b, (Z b ∨ b = a) → p.O Wr' b := fun b z => by
        rcases z with z | z
        · exact .inl z
        · exact .inr (z ▸ wa)
      exact hres a H' ph.1 na (outs _ r sub) (ow.frame rfl (fun _ _ _ e => e) fun c _ => sub c)
    | false =>
      simp only [hf, Bool.false_eq_true, if_false] at hres
      show if F.fresh = true then _ else _
      rw [hf, if_neg Bool.false_ne_true]
      intro v σ H' Wr' r ph rp
      exact hres v H' ph.1 (outs Z r fun a z => .inl z) rp
  | ex c fs ρ =>
    rw [er] at hres
    intro dx σ H' Wr' r ph x
    refine hres dx H' ph.1 (outs Z r fun a z => .inl z) ?_
    rcases x with ⟨h1, h2, h3⟩ | ⟨a, fv, h1, h2, h3, h4, h5⟩
    · exact .inl ⟨h1, h2, h3⟩
    · refine .inr ⟨a, fv, h1, h2, fun z => h3 (.inl z), h4, ?_⟩
      exact RepA.shrink h5 fun b z => .inl z
end
end PD
end

section
set_option Elab.async false
set_option linter.all false
set_option maxRecDepth 100000
set_option maxHeartbeats 4000000
/-! PD21: the law's own end, for promises that ask that no text is being made -/
namespace PD
open PySem PySem.Spec PyProof.Rows L2
/-- the script alone may be tracked: as it stands in the heap -/
def scrH (a : Addr) (vs : List Value) (ns : List Int) (own : Bool) : Hp := fun b => if own = true ∧ b = a then some (.frz { cls := .type "list", data := .seq vs.toArray } (.lst (ns.map V.int))) else none
theorem scrH_at {a b : Addr} {vs : List Value} {ns : List Int} {own : Bool} {u : HO} (h : scrH a vs ns own b = some u) : own = true ∧ b = a ∧ u = .frz { cls := .type "list", data := .seq vs.toArray } (.lst (ns.map V.int)) := by
  unfold scrH at h
  split at h
  · rename_i q
    cases h
    exact ⟨q.1, q.2, rfl⟩
  · cases h
section
variable {P : Program} {w : World} {K : PySem.W.Frag} {mg mb : Str → Option Value} {k : Nat} {fa a : Addr} {fd : FuncData} {x : Str} {sp : Sp} {s₁ : Shared} {vs : List Value} {ns : List Int}
theorem lawG (inK : K.In s₁.heap) (hns : s₁.heap.Ns mainGlobals mg) (hb : s₁.heap.Ns builtinsNs mb) (hbb : ∀ x : Str, x ≠ "__name__" → mb x = bootBuiltins x) (hlim : s₁.heap.NoLimit) (noG : s₁.gens = #[])
    (ha : s₁.heap.get? a = some { cls := .type "list", data := .seq vs.toArray }) (hi : IntsAre vs ns) (hl : ns.length ≤ sizeLine) (room : Room k callerA) (gd : callerA.guards = some [])
    (F : ∀ base : Heap, K.In base → base.Ns mainGlobals mg → FG P w K mg base k fa fd [x] sp) (bind : ∀ (s : Shared) (u : Value), BindsTo s fd ⟨[u], []⟩ [(x, u)])
    (want : ∀ H : Hp, (∀ b, (H b).isSome = true → ∃ o u, H b = some (.frz o u)) → SqL K H a (ns.map V.int) → sp [.ref a] H (fun v _ => v = .bl true) fun _ _ _ => False) :
    codeAny (model P w) callerA (.call (.ref fa) ⟨[.ref a], []⟩) (fun r s' => r = .ok (.ret (.bool true)) ∧ OldK s₁.heap s'.heap ∧ s'.os = s₁.os ∧ AllBare s'.gens) s₁ := by
  have rv := vals_ints hi
  have lenV := hi.length
  -- own: is the script outside what the module has written?
  obtain ⟨own, hown⟩ : ∃ own : Bool, own = (K.lookup a).isNone := ⟨_, rfl⟩
  have sq : SqL K (scrH a vs ns own) a (ns.map V.int) := by
    cases hk : K.lookup a with
    | none =>
      rw [hk] at hown
      refine .inl (.inr ⟨{ cls := .type "list", data := .seq vs.toArray }, ?_⟩)
      unfold scrH
      exact if_pos ⟨hown, rfl⟩
    | some o =>
      have e := inK a o hk
      rw [ha] at e
      cases e
      exact .inr ⟨_, vs.toArray, _, hk, rfl, rfl, rfl, by rw [List.size_toArray, lenV]; exact hl, by simpa using rv⟩
  have hok : HOk P w (scrH a vs ns own) s₁.heap := fun b u e => by
    obtain ⟨_, rfl, rfl⟩ := scrH_at e
    exact ⟨ha, by rw [List.length_map]; exact hl, vs, _, rv, ha⟩
  have none_of : ∀ {b : Addr} {o : Obj}, s₁.heap.get? b = some o → (b = a → own = true → False) → (hidT s₁.heap (scrH a vs ns own)).get? b = some o := fun {b o} e n => hidT_get e (by
    cases q : scrH a vs ns own b with
    | none => rfl
    | some u =>
      obtain ⟨h1, h2, _⟩ := scrH_at q
      exact (n h2 h1).elim)
  have dict_of : ∀ {b : Addr} {o : Obj} {es : Array DictEntry} {ep : Nat}, s₁.heap.get? b = some o → o.data = .dict es ep → (hidT s₁.heap (scrH a vs ns own)).get? b = some o := fun {b o es ep} e d => none_of e fun z _ => by
    subst z
    rw [ha] at e
    cases e
    cases d
  have ns_of : ∀ {b : Addr} {m : Str → Option Value}, s₁.heap.Ns b m → (hidT s₁.heap (scrH a vs ns own)).Ns b m := fun {b m} q => by
    obtain ⟨o, es, ep, e, d, r⟩ := q
    exact ⟨o, es, ep, dict_of e d, d, r⟩
  have inB : K.In (hidT s₁.heap (scrH a vs ns own)) := fun b o e => none_of (inK b o e) fun z h => by
    subst z
    rw [hown, e] at h
    cases h
  have e0 : Env0 P w K mg (hidT s₁.heap (scrH a vs ns own)) callerA [] s₁ (scrH a vs ns own) := by
    refine ⟨rfl, ⟨inB, ns_of hns, ⟨mb, ns_of hb, hbb⟩, ?_⟩, fun b o e => of_hidT e, Nat.le_of_eq (hidT_size _ _), trivial, (fun b hb => by cases hb), hok, .of_eq noG⟩
    obtain ⟨mc, h1, h2⟩ := hlim
    exact ⟨mc, ns_of h1, h2⟩
  have run := (F _ inB (ns_of hns)).run callerA [] s₁ (scrH a vs ns own) ⟨[.ref a], []⟩ [.ref a] [.ref a] _ _ gd room e0 (bind s₁ (.ref a)) (.cons rfl .nil) (want _ (fun b h => by
    obtain ⟨u, e⟩ := Option.isSome_iff_exists.mp h
    obtain ⟨_, _, z⟩ := scrH_at e
    exact ⟨_, _, e.trans (congrArg some z)⟩) sq)
  refine codeAny_mono run ?_
  intro r s' h
  cases r with
  | error e =>
    obtain ⟨_, _, _, _, _, _, _, _, _, _, _, _, z⟩ := h
    exact z.elim
  | ok fl =>
    cases fl with
    | next => cases h
    | brk => cases h
    | cont => cases h
    | ret u =>
      obtain ⟨v, H', os, bare, un, hok', r', q⟩ := h
      have q : v = .bl true := q
      subst q
      have r' : u = Value.bool true := r'
      subst r'
      refine ⟨rfl, OldK.of_keep fun b o e => ?_, os, bare⟩
      cases qb : scrH a vs ns own b with
      | none => exact un.keep b o e qb (fun z => by cases z) (by simp)
      | some u =>
        obtain ⟨_, z1, z2⟩ := scrH_at qb
        have h2 := un.frzs b _ _ (qb.trans (congrArg some z2))
        obtain ⟨e2, _⟩ := hok' b _ h2
        rw [z1, ha] at e
        cases e
        rw [z1] at e2 ⊢
        exact e2
end
/-- the walk of a law, from the promise of its def -/
theorem walkG {l : PySem.W.OpenLaw} {n k : Nat} {q : Program} {loose : List Str} {XP : (Str → Option Value) → Heap → Prop} {YP : World → Heap → Prop} {d : DefRec} {K : Params → PySem.W.Frag} {sp : World → Sp} {x : Str}
    (hn : l.most = some n) (hn2 : n ≤ sizeLine) (hdf : d.params.defaults = []) (room : Room k callerA) (gd : callerA.guards = some [])
    (hY : ∀ (w : World) (h : Heap), YP w h → (K w.params).In h)
    (F : ∀ (w : World) (mg : Str → Option Value) (fa : Addr) (h : Heap), (K w.params).In h → h.Ns mainGlobals mg → mg d.name = some (.ref fa) →
      ∃ fd : FuncData, (∀ (s : Shared) (u : Value), BindsTo s fd ⟨[u], []⟩ [(x, u)]) ∧ ∀ base : Heap, (K w.params).In base → base.Ns mainGlobals mg → FG l.prog w (K w.params) mg base k fa fd [x] (sp w))
    (want : ∀ (w : World) (H : Hp) (a : Addr) (ns : List Int), ns.length ≤ n → (∀ b, (H b).isSome = true → ∃ o u, H b = some (.frz o u)) → SqL (K w.params) H a (ns.map V.int) → sp w [.ref a] H (fun v _ => v = .bl true) fun _ _ _ => False) :
    PySem.W.WalkO q loose XP YP l.row.toRowW d [] (fun f vs => PySem.call f vs) := by
  apply Att.attach_call hn hdf
  intro w s₀ s₁ mg mb fa o pm cd doc a vs ns G Y ho hd hcd hmg hobj hints hlen hg
  have inK := hY w _ Y
  obtain ⟨fd, hb, hF⟩ := F w mg fa _ inK G.T.g hmg
  exact lawG inK G.T.g G.T.b G.T.builtins G.T.nolimit hg hobj hints (Nat.le_trans hlen hn2) room gd hF hb fun H h1 h2 => want w H a ns hlen h1 h2
end PD
end

section
set_option Elab.async false
set_option linter.all false
set_option maxRecDepth 100000
set_option maxHeartbeats 1000000
/-! PD22: the defs of a text, level by level -/
namespace PD
open PySem PySem.Spec PyProof.Rows L2
/-- a def of the text: its name, its statement, the names of its slots -/
structure DT where
  nm : Str
  st : Stmt
  N : List Str
def psOf (st : Stmt) : List Str := (defArgs st).args.map (·.arg)
def ioOf (F : Fn) : List Nat := (List.range F.np).filter fun i => F.own i
structure Tx where
  ds : List DT
  fns : List Fn
  gs : List (Str × Nat)
  gd : List (Str × Nat)
def fsOf (ds : List DT) : List (Str × Nat) := ds.zipIdx.map fun p => (p.1.nm, p.2)
def Tx.mc (T : Tx) (d : DT) (F : Fn) : MC := ⟨d.N, F.own, ioOf F, fsOf T.ds, T.gs, T.gd, T.fns⟩
def scB (N ps : List Str) (sc : Scope) : Bool :=
  (match sc.kind with | .function => true | _ => false) && !sc.isCoroutine && !sc.isGenerator && decide N.Nodup && decide (N.take ps.length = ps) &&
  (ps.all fun x => match sc.names.lookup x with | some .local => true | some .cell => true | _ => false) && sc.names.all fun y => match y.2 with | .free => false | _ => true
theorem scB_of {N ps : List Str} {sc : Scope} (h : scB N ps sc = true) : FnScope N ps sc := by
  unfold scB at h
  simp only [Bool.and_eq_true, decide_eq_true_eq, Bool.not_eq_true', List.all_eq_true] at h
  obtain ⟨⟨⟨⟨⟨⟨h1, h2⟩, h3⟩, h4⟩, h5⟩, h6⟩, h7⟩ := h
  refine ⟨?_, h2, h3, h4, h5, fun x hx => ?_, fun y hy => ?_⟩
  · split at h1
    · assumption
    · cases h1
  · have := h6 x hx
    split at this
    · rename_i e; exact .inl e
    · rename_i e; exact .inr e
    · cases this
  · have := h7 y hy
    intro e
    rw [e] at this
    cases this
def defB (T : Tx) (fuel : Nat) (d : DT) (F : Fn) : Bool :=
  scB d.N (psOf d.st) (defScope d.st) && decide ((psOf d.st).length = F.np) && decide (d.N.length = F.ns) && decide (F.io.length = F.np) && mSs (T.mc d F) F.fresh fuel (defScope d.st) F.body (defBody d.st)
section
variable {P : Program} {w : World} {K : PySem.W.Frag} {mg : Str → Option Value} {base : Heap} {g : Gv} {T : Tx} {G : List D} {wf fuel : Nat}
theorem fg_zero {f : Addr} {fd : FuncData} {ps : List Str} {F : Fn} {cf : List D → C} (h : ∀ ds, cf ds = .no) : FG P w K mg base 0 f fd ps (spC g F cf) := by
  have no : ∀ vs H Q E, ¬ spC g F cf vs H Q E := fun vs H Q E z => by
    obtain ⟨Z, ds, _, _, _, _, z⟩ := z
    rw [h] at z
    exact z
  exact ⟨fun vs H Q E z => (no _ _ _ _ z).elim, fun A outer s H args us vs Q E _ _ _ _ _ z => (no _ _ _ _ z).elim⟩
theorem mem_fsOf {ds : List DT} {x : Str} {i : Nat} (h : (x, i) ∈ fsOf ds) : ∃ d, ds[i]? = some d ∧ d.nm = x := by
  unfold fsOf at h
  obtain ⟨p, hp, e⟩ := List.mem_map.mp h
  cases e
  have := List.mem_zipIdx hp
  refine ⟨p.1, ?_, rfl⟩
  obtain ⟨_, h2, h3⟩ := this
  simp only [Nat.zero_add, Nat.sub_zero] at h2 h3
  rw [List.getElem?_eq_getElem (by omega), h3]
/-- what the top has left: the defs -/
def Left (K : PySem.W.Frag) (mg : Str → Option Value) (d : DT) : Prop := ∃ f fd, mg d.nm = some (.ref f) ∧ Fun K d.nm d.nm d.st f fd ∧ Binds K fd (psOf d.st) []
structure Base (fuel : Nat) (P : Program) (w : World) (K : PySem.W.Frag) (mg : Str → Option Value) (g : Gv) (T : Tx) (G : List D) : Prop where
  gK : g.K = K
  bn : ∀ x ∈ bnames, mg x = none
  gs : ∀ x i, (x, i) ∈ T.gs → ∃ v u d, mg x = some u ∧ RelV v u ∧ G[i]? = some d ∧ ∀ H O, PD.Rep K g.cl H O v d
  ds : ∀ x i, (x, i) ∈ T.gd → ∃ kvs d es n, mg x = some (.ref d) ∧ KDict K w d es n ∧ G[i]? = some (.dct false kvs) ∧ ∀ z : Str, ∃ r, PySem.W.nsIn K d z = some r ∧ match dget kvs (.str z) with
    | some c => ∃ u v, r = some u ∧ RelV v u ∧ ∀ H O, PD.Rep K g.cl H O v c
    | none => r = none
  left : ∀ d ∈ T.ds, Left K mg d
  ok : ∀ (i : Nat) (d : DT) (F : Fn), T.ds[i]? = some d → T.fns[i]? = some F → defB T fuel d F = true
  len : T.ds.length = T.fns.length
theorem levels (B : Base fuel P w K mg g T G) : ∀ (n i : Nat) (d : DT) (F : Fn), T.ds[i]? = some d → T.fns[i]? = some F → ∀ f fd, mg d.nm = some (.ref f) → Fun K d.nm d.nm d.st f fd →
    FG P w K mg base n f fd (psOf d.st) (spC g F (callF G T.fns wf n i)) := by
  intro n
  induction n with
  | zero => exact fun i d F _ _ f fd _ _ => fg_zero fun ds => rfl
  | succ n ih =>
    intro i d F hd hF f fd hm hf
    obtain ⟨oc, od, kV, doc, pm, an, cdv, ct, osl, rfl, lk, hcd⟩ := hf.ex
    have ok := B.ok i d F hd hF
    unfold defB at ok
    simp only [Bool.and_eq_true, decide_eq_true_eq] at ok
    obtain ⟨⟨⟨⟨h1, h2⟩, h3⟩, h4⟩, h5⟩ := ok
    have e : callF G T.fns wf (n + 1) i = runF G (callF G T.fns wf n) wf F := by
      funext ds
      show (match T.fns[i]? with | some F => runF G (callF G T.fns wf n) wf F ds | none => .no) = _
      rw [hF]
    rw [e]
    refine fn_ok (mc := T.mc d F) (fuel := fuel) lk hcd (scB_of h1) h2 h3 h4 rfl (fun j hj => ?_) ⟨B.gK, B.bn, B.gs, B.ds, fun x j F' hx hF' => ?_⟩ h5
    · obtain ⟨q1, q2⟩ := io_own hj
      exact List.mem_filter.mpr ⟨List.mem_range.mpr q2, q1⟩
    · obtain ⟨d', e1, e2⟩ := mem_fsOf hx
      obtain ⟨f', fd', g1, g2, g3⟩ := B.left d' (List.mem_of_getElem? e1)
      exact ⟨f', fd', psOf d'.st, e2 ▸ g1, g2.kp, g3, ih j d' F' e1 hF' f' fd' g1 g2⟩
end
end PD
end

section
set_option Elab.async false
set_option linter.all false
set_option maxRecDepth 100000
set_option maxHeartbeats 1000000
/-! PD23: what the top has left, as data; the end -/
namespace PD
open PySem PySem.Spec PyProof.Rows L2
def all2 {α β : Type} (p : α → β → Bool) : List α → List β → Bool
  | [], [] => true
  | a :: as, b :: bs => p a b && all2 p as bs
  | _, _ => false
/-- a value that the top has written stands for data -/
def cdB (K : PySem.W.Frag) : Nat → Value → D → Bool
  | 0, _, _ => false
  | n + 1, u, d => match u, d with
    | .none, .non => true
    | .bool b, .bl c => b == c
    | .int i _, .int j => decide (i = j)
    | .str x _, .str y => decide (x = y)
    | .ref a, .tup ds => (match K.lookup a with
      | some ⟨.type c, _, .seq its _, _⟩ => decide (c = "tuple") && (decide (its.size ≤ sizeLine) && all2 (cdB K n) its.toList ds)
      | _ => false)
    | _, _ => false
section
variable {K : PySem.W.Frag}
def CdOk (K : PySem.W.Frag) (u : Value) (d : D) : Prop := ∃ v, RelV v u ∧ ∀ cl H O, PD.Rep K cl H O v d
theorem cdAll {p : Value → D → Bool} (hp : ∀ u d, p u d = true → CdOk K u d) : ∀ {us : List Value} {ds : List D}, all2 p us ds = true → ∃ vs, Vals vs us ∧ ∀ cl H O, RepA K cl H O vs ds
  | [], [], _ => ⟨[], .nil, fun _ _ _ => .nil⟩
  | u :: us, d :: ds, h => by
    have h : (p u d && all2 p us ds) = true := h
    rw [Bool.and_eq_true] at h
    obtain ⟨v, r1, r2⟩ := hp u d h.1
    obtain ⟨vs, q1, q2⟩ := cdAll hp h.2
    exact ⟨v :: vs, .cons r1 q1, fun cl H O => .cons (r2 cl H O) (q2 cl H O)⟩
  | [], _ :: _, h => by cases h
  | _ :: _, [], h => by cases h
theorem cdB_ok : ∀ (n : Nat) (u : Value) (d : D), cdB K n u d = true → CdOk K u d
  | 0, _, _, h => by cases h
  | n + 1, u, d, h => by
    unfold cdB at h
    split at h
    · exact ⟨.non, rfl, fun _ _ _ => .non⟩
    · have e := eq_of_beq h
      subst e
      exact ⟨.bl _, rfl, fun _ _ _ => .bl _⟩
    · have e := of_decide_eq_true h
      subst e
      exact ⟨.int _, ⟨_, rfl⟩, fun _ _ _ => .int _⟩
    · have e := of_decide_eq_true h
      subst e
      exact ⟨.str _, ⟨_, rfl⟩, fun _ _ _ => .str _⟩
    · rename_i a ds
      split at h
      · rename_i c od its k sl q
        simp only [Bool.and_eq_true, decide_eq_true_eq] at h
        obtain ⟨h1, h2, h3⟩ := h
        obtain ⟨vs, q1, q2⟩ := cdAll (cdB_ok n) h3
        exact ⟨.ref a, rfl, fun cl H O => .tupK ⟨_, its, k, q, congrArg Value.type h1, rfl, h2, q1⟩ (q2 cl H O)⟩
      · cases h
    · cases h
def conB (K : PySem.W.Frag) (x : Str) (d : D) : Bool := match PySem.W.nsIn K mainGlobals x with
  | some (some u) => cdB K 9 u d
  | _ => false
theorem conB_ok {x : Str} {d : D} (h : conB K x d = true) : ∃ u, PySem.W.nsIn K mainGlobals x = some (some u) ∧ CdOk K u d := by
  unfold conB at h
  split at h
  · rename_i u q
    exact ⟨u, q, cdB_ok _ _ _ h⟩
  · cases h
/-! ### a dict with text keys -/
def entB (K : PySem.W.Frag) (e : DictEntry) (q : D × D) : Bool := (match e.key, q.1 with
  | .str x _, .str y => decide (x = y)
  | _, _ => false) && cdB K 9 e.val q.2
def dicVB (K : PySem.W.Frag) (x : Str) (kvs : List (D × D)) : Bool := match PySem.W.nsIn K mainGlobals x with
  | some (some (.ref a)) => (match K.lookup a with
    | some ⟨_, _, .dict es _, _⟩ => all2 (entB K) es.toList kvs
    | _ => false)
  | _ => false
theorem ents_get {z : Str} : ∀ {es : List DictEntry} {kvs : List (D × D)}, all2 (entB K) es kvs = true →
    (∀ e ∈ es, e.refKey = false) ∧ match dget kvs (.str z) with
      | some c => ∃ e, es.find? (·.key.isStr z) = some e ∧ CdOk K e.val c
      | none => es.find? (·.key.isStr z) = none
  | [], [], _ => ⟨fun _ h => (by cases h), rfl⟩
  | e :: es, (k, v) :: kvs, h => by
    have h : (entB K e (k, v) && all2 (entB K) es kvs) = true := h
    rw [Bool.and_eq_true] at h
    obtain ⟨i1, i2⟩ := ents_get (z := z) h.2
    have h1 := h.1
    unfold entB at h1
    rw [Bool.and_eq_true] at h1
    obtain ⟨h1, h3⟩ := h1
    split at h1
    · rename_i x t y e1 e2
      have e2 : k = .str y := e2
      subst e2
      have e3 := of_decide_eq_true h1
      subst e3
      refine ⟨fun e' he => ?_, ?_⟩
      · rcases List.mem_cons.mp he with q | q
        · subst q
          unfold DictEntry.refKey
          rw [e1]
        · exact i1 e' q
      · unfold dget
        rw [List.find?_cons, List.find?_cons]
        have e4 : e.key.isStr z = decide (x = z) := by rw [e1]; exact (Bool.beq_eq_decide_eq _ _)
        have e5 : keq (.str x) (.str z) = decide (x = z) := rfl
        rw [e4]
        simp only [e5]
        cases q : decide (x = z) with
        | true => exact ⟨e, rfl, cdB_ok _ _ _ h3⟩
        | false => exact i2
    · cases h1
  | [], _ :: _, h => by cases h
  | _ :: _, [], h => by cases h
theorem nsIn_of {a : Addr} {oc : Value} {od : Option Addr} {es : Array DictEntry} {n : Nat} {sl : Array (Option Value)} {kvs : List (D × D)} (hl : K.lookup a = some ⟨oc, od, .dict es n, sl⟩) (h : all2 (entB K) es.toList kvs = true) (cl : Nat → Addr) (z : Str) :
    ∃ r, PySem.W.nsIn K a z = some r ∧ match dget kvs (.str z) with
    | some c => ∃ u v, r = some u ∧ RelV v u ∧ ∀ H O, PD.Rep K cl H O v c
    | none => r = none := by
  obtain ⟨h1, h2⟩ := ents_get (z := z) h
  unfold PySem.W.nsIn
  rw [hl]
  simp only
  cases q : dget kvs (.str z) with
  | none =>
    rw [q] at h2
    simp only at h2
    rw [h2]
    simp only
    have : es.toList.any (·.refKey) = false := by
      rw [List.any_eq_false]
      intro e he
      rw [h1 e he]
      exact Bool.false_ne_true
    rw [this]
    exact ⟨none, rfl, rfl⟩
  | some c =>
    rw [q] at h2
    simp only at h2
    obtain ⟨e, e1, v, r1, r2⟩ := h2
    rw [e1]
    exact ⟨some e.val, rfl, e.val, v, rfl, r1, r2 cl⟩
end
/-! ### the Hook -/
def DT.dd (d : DT) : He.DefD := ⟨(d.nm, none), d.nm, d.nm, defArgs d.st, defBody d.st, defScope d.st, [], []⟩
def keysOf (kvs : List (D × D)) : List Str := kvs.map fun q => match q.1 with
  | .str x => x
  | _ => Str.empty
def kvsAt (G : List D) (i : Nat) : List (D × D) := match G[i]? with
  | some (.dct false kvs) => kvs
  | _ => []
def Tx.facts (T : Tx) : List He.Fa := (T.ds.map fun d => He.Fa.glo d.nm) ++ (T.gd.map fun q => He.Fa.glo q.1) ++ bnames.map He.Fa.free
def Tx.obB (T : Tx) (G : List D) (K : PySem.W.Frag) : Bool := (T.facts.all fun f => f.ok K) && ((T.ds.all fun d => d.dd.ok K) && ((T.gs.all fun q => match G[q.2]? with | some d => conB K q.1 d | none => false) && T.gd.all fun q => match G[q.2]? with | some (.dct false kvs) => dicVB K q.1 kvs | _ => false))
abbrev AlP : Type := Bool × List He.FnW × List (Option (List (Option (Str × Int))))
def obsP (T : Tx) (G : List D) (K : PySem.W.Frag) : AlP := (T.obB G K, T.ds.map (fun d => He.fnW K (d.nm, none)), T.gd.map fun q => He.dicW K (He.ga K q.1))
def valP (T : Tx) (G : List D) (w : World) : AlP := (true, T.ds.map (fun d => d.dd.val), T.gd.map fun q => some (He.keysIn w.params (keysOf (kvsAt G q.2))))
def obsPG (n : Nat) (T : Tx) (G : List D) (g : Addr → Option Obj) : AlP := obsP T G (He.frG g (He.asD g n))
def SaysP (T : Tx) (G : List D) (w : World) (K : PySem.W.Frag) : Prop := obsP T G K = valP T G w
def hookP (n : Nat) (T : Tx) (G : List D) : PySem.W.Hook where
  α := AlP
  obs := fun s => obsPG n T G s.heap.get?
  val := fun w => valP T G w
  says := fun w h => ∃ K : PySem.W.Frag, K.In h ∧ SaysP T G w K
  of := fun _ _ e => ⟨_, He.frG_in, e⟩
  keeps := fun _ _ _ ⟨K, hK, c⟩ k => ⟨K, PySem.W.Frag.In.keeps hK k, c⟩
theorem obsPG_eq {n : Nat} {T : Tx} {G : List D} {g : Addr → Option Obj} {s : Shared} (h : ∀ a, g a = s.heap.get? a) : obsPG n T G g = (hookP n T G).obs s := by
  have e : g = s.heap.get? := funext h
  rw [e] <;> rfl
/-- how the arguments of a def bind -/
def BindOk (d : DT) : Prop := ∀ (kV doc pm : Value) (an : Option Addr) (cdv ct : Value) (us : List Value), us.length = (psOf d.st).length → bindArgs (PySem.W.fnOf d.nm d.nm (defArgs d.st) (defBody d.st) (defScope d.st) .none kV doc pm an cdv ct) ⟨us, []⟩ = pure ((psOf d.st).zip us)
section
variable {P : Program} {w : World} {K : PySem.W.Frag} {h : Heap} {mg : Str → Option Value} {T : Tx} {G : List D} {fuel : Nat}
theorem says_fun (s : SaysP T G w K) {d : DT} (hd : d ∈ T.ds) : ∃ fd, Fun K d.nm d.nm d.st (He.ga K d.nm) fd := by
  have s1 : T.obB G K = true := congrArg (fun z : AlP => z.1) s
  have s2 : T.ds.map (fun d => He.fnW K (d.nm, none)) = T.ds.map (fun d => d.dd.val) := congrArg (fun z : AlP => z.2.1) s
  unfold Tx.obB at s1
  simp only [Bool.and_eq_true, List.all_eq_true] at s1
  have ok := s1.2.1 d hd
  have ev : He.fnW K (d.nm, none) = d.dd.val := List.map_inj_left.mp s2 d hd
  obtain ⟨fd, F⟩ := He.DefD.funD (d := d.dd) ev ok
  obtain ⟨oc, od, dV, kV, doc, pm, an, cdv, ct, osl, e1, e2, e3, e4, _⟩ := F.ex
  have e5 : dV = .none := by
    rcases e4 with q | q
    · exact q.2
    · exact (q.1 rfl).elim
  subst e5
  exact ⟨fd, ⟨oc, od, kV, doc, pm, an, cdv, ct, osl, e1, e2, e3⟩, F.kp⟩
theorem base_of (X : K.In h) (N : h.Ns mainGlobals mg) (s : SaysP T G w K) (bind : ∀ d ∈ T.ds, BindOk d) (ok : ∀ (i : Nat) (d : DT) (F : Fn), T.ds[i]? = some d → T.fns[i]? = some F → defB T fuel d F = true) (len : T.ds.length = T.fns.length) (cl xc : Nat → Addr) (xn : Nat → List Str) :
    Base fuel P w K mg ⟨K, cl, xc, xn⟩ T G := by
  have s1 : T.obB G K = true := congrArg (fun z : AlP => z.1) s
  have s3 : T.gd.map (fun q => He.dicW K (He.ga K q.1)) = T.gd.map (fun q => some (He.keysIn w.params (keysOf (kvsAt G q.2)))) := congrArg (fun z : AlP => z.2.2) s
  have s0 := s1
  unfold Tx.obB at s1
  simp only [Bool.and_eq_true, List.all_eq_true] at s1
  obtain ⟨f1, f2, f3, f4⟩ := s1
  have glo : ∀ d ∈ T.ds, mg d.nm = some (.ref (He.ga K d.nm)) := fun d hd => He.glo_ok X N (f1 _ (by
    unfold Tx.facts
    exact List.mem_append_left _ (List.mem_append_left _ (List.mem_map_of_mem hd))))
  refine ⟨rfl, fun x hx => He.free_ok X N (f1 _ ?_), fun x i hx => ?_, fun x i hx => ?_, fun d hd => ?_, ok, len⟩
  · unfold Tx.facts
    exact List.mem_append_right _ (List.mem_map_of_mem hx)
  · have q := f3 (x, i) hx
    simp only at q
    split at q
    · rename_i d e
      obtain ⟨u, h1, v, h2, h3⟩ := conB_ok q
      exact ⟨v, u, d, PySem.W.mg_of X N h1, h2, e, h3 cl⟩
    · cases q
  · have q := f4 (x, i) hx
    simp only at q
    split at q
    · rename_i kvs e
      have g1 : mg x = some (.ref (He.ga K x)) := He.glo_ok X N (f1 _ (by
        unfold Tx.facts
        exact List.mem_append_left _ (List.mem_append_right _ (List.mem_map.mpr ⟨(x, i), hx, rfl⟩))))
      have g2 : He.dicW K (He.ga K x) = some (He.keysIn w.params (keysOf (kvsAt G i))) := List.map_inj_left.mp s3 (x, i) hx
      obtain ⟨es, n, kd⟩ := He.dicW_ok g2
      unfold dicVB at q
      split at q
      · rename_i a ea
        have e1 : He.ga K x = a := by
          unfold He.ga
          rw [ea]
        rw [e1] at g1 kd
        have e2 := kd.at_
        rw [e2] at q
        simp only at q
        exact ⟨kvs, a, es, n, g1, kd, e, fun z => nsIn_of e2 q cl z⟩
      · cases q
    · cases q
  · obtain ⟨fd, F⟩ := says_fun s hd
    exact ⟨_, fd, glo d hd, F, F.binds (bind d hd)⟩
end
/-- the turns that a while may take -/
def WF : Nat := 1000000
/-- the walk of a law, over such a head -/
theorem walkP {l : PySem.W.OpenLaw} {n lv fuel wf il : Nat} {q : Program} {loose : List Str} {XP : (Str → Option Value) → Heap → Prop} {d : DefRec} {m : Nat} {T : Tx} {G : List D} {x : Str} {dt : DT} {F : Fn}
    (hn : l.most = some n) (hn2 : n ≤ sizeLine) (hdf : d.params.defaults = []) (room : Room lv callerA) (gd : callerA.guards = some [])
    (bind : ∀ d ∈ T.ds, BindOk d) (ok : ∀ (i : Nat) (d : DT) (F : Fn), T.ds[i]? = some d → T.fns[i]? = some F → defB T fuel d F = true) (len : T.ds.length = T.fns.length)
    (hd : T.ds[il]? = some dt) (hF : T.fns[il]? = some F) (hnm : d.name = dt.nm) (hx : psOf dt.st = [x]) (hio : F.io = [false]) (hfr : F.fresh = false) (hnp : F.np = 1)
    (law : ∀ ns : List Int, ns.length ≤ n → ∃ io, callF G T.fns wf lv il [.scr ns] = .ok (.bl true) io) :
    PySem.W.WalkO q loose XP (hookP m T G).says l.row.toRowW d [] (fun f vs => PySem.call f vs) := by
  apply Att.attach_call hn hdf
  intro w s₀ s₁ mg mb fa o pm cd doc a vs ns Gr Y ho hdd hcd hmg hobj hints hlen hg
  obtain ⟨K, KX, c⟩ := Y
  have B : Base fuel l.prog w K mg ⟨K, fun _ => 0, fun _ => 0, fun _ => []⟩ T G := base_of KX Gr.T.g c bind ok len _ _ _
  have hm : dt ∈ T.ds := List.mem_of_getElem? hd
  obtain ⟨f, fd, g1, g2, g3⟩ := B.left dt hm
  rw [hnm, g1] at hmg
  cases hmg
  refine lawG (fd := fd) (sp := spC ⟨K, fun _ => 0, fun _ => 0, fun _ => []⟩ F (callF G T.fns wf lv il)) (x := x) KX Gr.T.g Gr.T.b Gr.T.builtins Gr.T.nolimit hg hobj hints (Nat.le_trans hlen hn2) room gd (fun base K1 N1 => ?_) (fun s u => ?_) fun H h1 h2 => ?_
  · have := levels (base := base) (wf := wf) B lv il dt F hd hF fa fd g1 g2
    rw [hx] at this
    exact this
  · obtain ⟨oc, od, kV, doc', pm', an, cdv, ct, osl, rfl, _, _⟩ := g2.ex
    have := bind dt hm kV doc' pm' an cdv ct [u] (by rw [hx]; rfl)
    rw [hx] at this
    exact .of_eq this
  · refine ⟨fun _ => False, [.scr ns], by rw [hnp]; rfl, fun _ z => z.elim, ?_, fun i j b hi => ?_, ?_⟩
    · rw [hio]
      refine ⟨?_, trivial⟩
      rcases h2 with h2 | h2
      · exact .scr h2 id
      · exact .scrK h2
    · rw [hio] at hi
      cases i with
      | zero => simp at hi
      | succ i => simp at hi
    · obtain ⟨io, e⟩ := law ns hlen
      rw [e]
      simp only [hfr, Bool.false_eq_true, if_false]
      intro v H' _ _ r
      cases r
      rfl
end PD
end

section
set_option Elab.async false
set_option linter.all false
set_option maxRecDepth 100000
set_option maxHeartbeats 1000000
/-! QW: weakest preconditions of the small language -/
namespace PD
open PySem PySem.Spec PyProof.Rows L2
abbrev XQ := Nat → List D → Env → Prop
def wR {α : Type} (r : R α) (Q : α → Env → Prop) (X : XQ) : Prop := match r with
  | .ok a ρ => Q a ρ
  | .ex c fs ρ => X c fs ρ
  | .no => False
def wO {α : Type} (o : Option α) (Q : α → Prop) : Prop := match o with
  | some a => Q a
  | none => False
def wC (c : C) (Q : D → Env → Prop) (X : XQ) : Prop := match c with
  | .ok d io => Q d io
  | .ex c fs io => X c fs io
  | .no => False
def wSR (r : SR) (N : Env → Prop) (T : D → Env → Prop) (B Ct : Env → Prop) (X : XQ) : Prop := match r with
  | .nxt ρ => N ρ
  | .brk ρ => B ρ
  | .cnt ρ => Ct ρ
  | .ret d ρ => T d ρ
  | .ex c fs ρ => X c fs ρ
  | .no => False
section
variable {α β : Type} {Q : β → Env → Prop} {X : XQ}
theorem wR_bind {r : R α} {f : α → Env → R β} : wR (r.bind f) Q X = wR r (fun a ρ => wR (f a ρ) Q X) X := by cases r <;> rfl
theorem wR_ok {a : β} {ρ : Env} : wR (.ok a ρ) Q X = Q a ρ := rfl
theorem wR_ofO {o : Option β} {ρ : Env} : wR (ofO o ρ) Q X = wO o (fun a => Q a ρ) := by cases o <;> rfl
theorem wSR_bindS {r : R α} {f : α → Env → SR} {N : Env → Prop} {T : D → Env → Prop} {B Ct : Env → Prop} : wSR (r.bindS f) N T B Ct X = wR r (fun a ρ => wSR (f a ρ) N T B Ct X) X := by cases r <;> rfl
theorem wSR_bind {r : SR} {f : Env → SR} {N : Env → Prop} {T : D → Env → Prop} {B Ct : Env → Prop} : wSR (r.bind f) N T B Ct X = wSR r (fun ρ => wSR (f ρ) N T B Ct X) T B Ct X := by cases r <;> rfl
theorem wO_some {a : α} {P : α → Prop} : wO (some a) P = P a := rfl
theorem wO_none {P : α → Prop} : wO (none : Option α) P = False := rfl
theorem wO_map {o : Option α} {f : α → β} {P : β → Prop} : wO (o.map f) P = wO o fun a => P (f a) := by cases o <;> rfl
theorem wO_ite {c : Prop} [Decidable c] {o : Option α} {P : α → Prop} : wO (if c then o else none) P = (c ∧ wO o P) := by
  by_cases h : c
  · rw [if_pos h]; exact propext ⟨fun q => ⟨h, q⟩, fun q => q.2⟩
  · rw [if_neg h]; exact propext ⟨fun q => q.elim, fun q => h q.1⟩
theorem wO_imp {o : Option α} {P P' : α → Prop} (h : wO o P) (i : ∀ a, P a → P' a) : wO o P' := by
  cases o with
  | none => exact h
  | some a => exact i a h
theorem wR_imp {r : R β} {Q' : β → Env → Prop} {X' : XQ} (h : wR r Q X) (i : ∀ a ρ, Q a ρ → Q' a ρ) (j : ∀ c fs ρ, X c fs ρ → X' c fs ρ) : wR r Q' X' := by
  cases r with
  | ok a ρ => exact i a ρ h
  | ex c fs ρ => exact j c fs ρ h
  | no => exact h
theorem wC_imp {c : C} {Q Q' : D → Env → Prop} {X' : XQ} (h : wC c Q X) (i : ∀ a ρ, Q a ρ → Q' a ρ) (j : ∀ c fs ρ, X c fs ρ → X' c fs ρ) : wC c Q' X' := by
  cases c with
  | ok a ρ => exact i a ρ h
  | ex c fs ρ => exact j c fs ρ h
  | no => exact h
end
/-- keeps simp out of what it names -/
structure Tag {α : Type} (a : α) : Type where
def wCt (c : C) (Q : D → Env → Prop) (X : XQ) (_ : Tag (Q, X)) : Prop := wC c Q X
/-- the truth of data -/
def wT (d : D) (Q : Bool → Prop) : Prop := wO (truD d) Q
section
variable (G : List D) (cf : Nat → List D → C)
def wE (e : Ex) (ρ : Env) (Q : D → Env → Prop) (X : XQ) : Prop := wR (evE G cf e ρ) Q X
def wEs (es : Exs) (ρ : Env) (Q : List D → Env → Prop) (X : XQ) : Prop := wR (evs G cf es ρ) Q X
def wI (it : It) (ρ : Env) (Q : List D → Env → Prop) (X : XQ) : Prop := wR (evI G cf it ρ) Q X
/-- a comprehension's turns -/
def wL (cd e : Ex) (tg : Tg) (own : List Nat) (ds : List D) (ρ : Env) (Q : List D → Env → Prop) (_ : Tag Q) : Prop := wR (compL (fun r => evE G cf cd r) (fun r => evE G cf e r) tg own ds ρ) Q fun _ _ _ => False
variable (wf : Nat)
def wS (s : Sm) (ρ : Env) (N : Env → Prop) (T : D → Env → Prop) (B Ct : Env → Prop) (X : XQ) : Prop := wSR (exS G cf wf s ρ) N T B Ct X
def wSs (s : Sms) (ρ : Env) (N : Env → Prop) (T : D → Env → Prop) (B Ct : Env → Prop) (X : XQ) : Prop := wSR (exSs G cf wf s ρ) N T B Ct X
/-- a for's turns -/
def wF (b : Sms) (tg : Tg) (ds : List D) (ρ : Env) (N : Env → Prop) (T : D → Env → Prop) (B Ct : Env → Prop) (X : XQ) (_ : Tag (N, T, B, Ct, X)) : Prop := wSR (forL (fun r => exSs G cf wf b r) tg ds ρ) N T B Ct X
def wW (c : Ex) (b : Sms) (n : Nat) (ρ : Env) (N : Env → Prop) (T : D → Env → Prop) (B Ct : Env → Prop) (X : XQ) (_ : Tag (N, T, B, Ct, X)) : Prop := wSR (whlL (fun r => evE G cf c r) (fun r => exSs G cf wf b r) n ρ) N T B Ct X
end
section
variable {G : List D} {cf : Nat → List D → C} {wf : Nat} {ρ : Env} {Q : D → Env → Prop} {QL : List D → Env → Prop} {X : XQ} {a b c t lo hi : Ex} {es : Exs} {i g f : Nat}
theorem wE_var : wE G cf (.var i) ρ Q X = wO (lk ρ i) fun d => Q d ρ := by simp only [wE, evE, wR_ofO]
theorem wE_bor : wE G cf (.bor i) ρ Q X = wO (lk ρ i) fun d => Q d ρ := by simp only [wE, evE, wR_ofO]
theorem wE_non : wE G cf .non ρ Q X = Q .non ρ := by simp only [wE, evE, wR_ok]
theorem wE_nop : wE G cf .nop ρ Q X = Q .non ρ := by simp only [wE, evE, wR_ok]
theorem wE_bl {b : Bool} : wE G cf (.bl b) ρ Q X = Q (.bl b) ρ := by simp only [wE, evE, wR_ok]
theorem wE_int {i : Int} : wE G cf (.int i) ρ Q X = Q (.int i) ρ := by simp only [wE, evE, wR_ok]
theorem wE_str {s : Str} : wE G cf (.str s) ρ Q X = Q (.str s) ρ := by simp only [wE, evE, wR_ok]
theorem wE_glo : wE G cf (.glo g) ρ Q X = wO G[g]? fun d => Q d ρ := by simp only [wE, evE, wR_ofO]
theorem wR_ite {α : Type} {p : Prop} [Decidable p] {r : R α} {P : α → Env → Prop} : wR (if p then r else .no) P X = (p ∧ wR r P X) := by
  by_cases h : p
  · rw [if_pos h]; exact propext ⟨fun q => ⟨h, q⟩, fun q => q.2⟩
  · rw [if_neg h]; exact propext ⟨fun q => q.elim, fun q => h q.1⟩
theorem wE_tup : wE G cf (.tup es) ρ Q X = wEs G cf es ρ (fun ds ρ1 => fitn ds.length = true ∧ Q (.tup ds) ρ1) X := by simp only [wE, evE, wEs, wR_bind, wR_ite, wR_ok]
theorem wE_lst : wE G cf (.lst es) ρ Q X = wEs G cf es ρ (fun ds ρ1 => fitn ds.length = true ∧ Q (.lst ds) ρ1) X := by simp only [wE, evE, wEs, wR_bind, wR_ite, wR_ok]
theorem wE_dct {t : Bool} {ks vs : Exs} : wE G cf (.dct t ks vs) ρ Q X = wEs G cf ks ρ (fun kd ρ1 => wEs G cf vs ρ1 (fun vd ρ2 => kd.length = vd.length ∧ Q (.dct t (kd.zip vd)) ρ2) X) X := by simp only [wE, evE, wEs, wR_bind, wR_ite, wR_ok, decide_eq_true_eq]


theorem wE_bin {o : Bop} : wE G cf (.bin o a b) ρ Q X = wE G cf a ρ (fun d ρ1 => wE G cf b ρ1 (fun e ρ2 => wO (fx a d ρ2) fun d' => wO (fx b e ρ2) fun e' => wO (binD o d' e') fun r => Q r ρ2) X) X := by
  simp only [wE, evE, wR_bind]
  congr 1; funext d ρ1; congr 1; funext e ρ2
  cases fx a d ρ2 <;> cases fx b e ρ2 <;> first | rfl | exact wR_ofO

theorem wE_neg : wE G cf (.neg a) ρ Q X = wE G cf a ρ (fun d ρ1 => wO (negD d) fun r => Q r ρ1) X := by simp only [wE, evE, wR_bind, wR_ofO]
theorem wE_cmp {o : Cop} : wE G cf (.cmp o a b) ρ Q X = wE G cf a ρ (fun d ρ1 => wE G cf b ρ1 (fun e ρ2 => wO (fx a d ρ2) fun d' => wO (fx b e ρ2) fun e' => wO (cmpD o d' e') fun r => Q r ρ2) X) X := by
  simp only [wE, evE, wR_bind]
  congr 1; funext d ρ1; congr 1; funext e ρ2
  cases fx a d ρ2 <;> cases fx b e ρ2 <;> first | rfl | exact wR_ofO

/-- a test's answer -/
def wB (d : D) (P : Bool → Prop) : Prop := match d with
  | .bl b => P b
  | _ => False
theorem wE_chn {o o' : Cop} : wE G cf (.chn o o' a b c) ρ Q X = wE G cf a ρ (fun d ρ1 => wE G cf b ρ1 (fun e ρ2 => wO (fx a d ρ2) fun d' => wO (fx b e ρ2) fun e' => wO (cmpD o d' e') fun r => wB r fun k => if k = true then wE G cf c ρ2 (fun f ρ3 => wO (fx b e ρ3) fun e2 => wO (fx c f ρ3) fun f2 => wO (cmpD o' e2 f2) fun z => Q z ρ3) X else Q (.bl false) ρ2) X) X := by
  simp only [wE, evE, wR_bind]
  congr 1; funext d ρ1; congr 1; funext e ρ2
  cases e1 : fx a d ρ2 with
  | none => rfl
  | some d' =>
    cases e2 : fx b e ρ2 with
    | none => rfl
    | some e' =>
      simp only [wO_some]
      cases cmpD o d' e' with
      | none => rfl
      | some r =>
        cases r with
        | bl k => cases k with
          | true =>
            simp only [wO_some, wB, if_true, wR_bind]
            congr 1; funext f ρ3
            cases fx b e ρ3 <;> cases fx c f ρ3 <;> first | rfl | exact wR_ofO
          | false => simp only [wO_some, wB, wR_ok, Bool.false_eq_true, if_false]
        | _ => rfl

theorem wE_nt : wE G cf (.nt a) ρ Q X = wE G cf a ρ (fun d ρ1 => wO (fx a d ρ1) fun d' => wT d' fun k => Q (.bl (!k)) ρ1) X := by
  simp only [wE, evE, wR_bind]
  congr 1; funext d ρ1
  cases fx a d ρ1 with
  | none => rfl
  | some d' => simp only [wO_some, wT]; cases truD d' <;> rfl

theorem wE_an : wE G cf (.an a b) ρ Q X = wE G cf a ρ (fun d ρ1 => wT d fun k => if k = true then wE G cf b ρ1 Q X else Q d ρ1) X := by
  simp only [wE, evE, wR_bind]
  congr 1; funext d ρ1
  simp only [wT]
  cases truD d with
  | none => rfl
  | some k => cases k <;> simp only [wO_some, if_true, Bool.false_eq_true, if_false, wR_ok]

theorem wE_orr : wE G cf (.orr a b) ρ Q X = wE G cf a ρ (fun d ρ1 => wT d fun k => if k = true then Q d ρ1 else wE G cf b ρ1 Q X) X := by
  simp only [wE, evE, wR_bind]
  congr 1; funext d ρ1
  simp only [wT]
  cases truD d with
  | none => rfl
  | some k => cases k <;> simp only [wO_some, if_true, Bool.false_eq_true, if_false, wR_ok]

theorem wE_ite : wE G cf (.ite t a b) ρ Q X = wE G cf t ρ (fun d ρ1 => wO (fx t d ρ1) fun d' => wT d' fun k => if k = true then wE G cf a ρ1 Q X else wE G cf b ρ1 Q X) X := by
  simp only [wE, evE, wR_bind]
  congr 1; funext d ρ1
  cases fx t d ρ1 with
  | none => rfl
  | some d' =>
    simp only [wO_some, wT]
    cases truD d' with
    | none => rfl
    | some k => cases k <;> simp only [wO_some, if_true, Bool.false_eq_true, if_false]

theorem wE_ix : wE G cf (.ix a b) ρ Q X = wE G cf a ρ (fun d ρ1 => wE G cf b ρ1 (fun e ρ2 => wO (fx a d ρ2) fun d' => wO (ixD d' e) fun r => Q r ρ2) X) X := by
  simp only [wE, evE, wR_bind]
  congr 1; funext d ρ1; congr 1; funext e ρ2
  cases fx a d ρ2 <;> first | rfl | exact wR_ofO

theorem wE_sl : wE G cf (.sl a lo hi) ρ Q X = wE G cf a ρ (fun d ρ1 => wE G cf lo ρ1 (fun l ρ2 => wO (ixO lo l) fun l' => wE G cf hi ρ2 (fun h ρ3 => wO (ixO hi h) fun h' => wO (fx a d ρ3) fun d' => wO (slD l' h' d') fun r => Q r ρ3) X) X) X := by
  simp only [wE, evE, wR_bind, wR_ofO]
  congr 1; funext d ρ1; congr 1; funext l ρ2; congr 1; funext l'; congr 1; funext h ρ3; congr 1; funext h'
  cases fx a d ρ3 <;> first | rfl | exact wR_ofO

theorem wE_rev : wE G cf (.rev a) ρ Q X = wE G cf a ρ (fun d ρ1 => wO (fx a d ρ1) fun d' => wO (revD d') fun r => Q r ρ1) X := by
  simp only [wE, evE, wR_bind]
  congr 1; funext d ρ1
  cases fx a d ρ1 <;> first | rfl | exact wR_ofO

theorem wR_call {ds : List D} : wR (callR cf f es ds ρ) Q X = wO (fxs es ds ρ) fun ds' => wC (cf f ds') (fun d io => Q d (putIo ρ es io)) (fun c fs io => X c fs (putIo ρ es io)) := by
  unfold callR
  cases fxs es ds ρ with
  | none => rfl
  | some ds' =>
    simp only [wO]
    cases cf f ds' <;> rfl
theorem wE_cal : wE G cf (.cal f es) ρ Q X = wEs G cf es ρ (fun ds ρ1 => wO (fxs es ds ρ1) fun ds' => wCt (cf f ds') (fun d io => Q d (putIo ρ1 es io)) (fun c fs io => X c fs (putIo ρ1 es io)) ⟨⟩) X := by simp only [wE, evE, wEs, wR_bind, wR_call, wCt]
theorem wE_b1 {k : B1} : wE G cf (.b1 k a) ρ Q X = wE G cf a ρ (fun d ρ1 => wO (fx a d ρ1) fun d' => wO (b1D k d') fun r => Q r ρ1) X := by
  simp only [wE, evE, wR_bind]
  congr 1; funext d ρ1
  cases fx a d ρ1 <;> first | rfl | exact wR_ofO

theorem wE_b2 {k : B2} : wE G cf (.b2 k a c) ρ Q X = wE G cf a ρ (fun d ρ1 => wE G cf c ρ1 (fun e ρ2 => wO (b2D k d e) fun r => Q r ρ2) X) X := by simp only [wE, evE, wR_bind, wR_ofO]
theorem wE_isi {k : Ty} : wE G cf (.isi a k) ρ Q X = wE G cf a ρ (fun d ρ1 => wO (fx a d ρ1) fun d' => wO (isiD d' k) fun r => Q (.bl r) ρ1) X := by
  simp only [wE, evE, wR_bind]
  congr 1; funext d ρ1
  cases fx a d ρ1 with
  | none => rfl
  | some d' => simp only [wO_some, wR_ofO, wO_map]

theorem wE_m0 {m : Mt} : wE G cf (.m0 m a) ρ Q X = wE G cf a ρ (fun d ρ1 => wO (m0D m d) fun r => Q r ρ1) X := by simp only [wE, evE, wR_bind, wR_ofO]
theorem wE_m1 {m : Mt} : wE G cf (.m1 m a b) ρ Q X = wE G cf a ρ (fun d ρ1 => tyD (mT m) d = true ∧ wE G cf b ρ1 (fun e ρ2 => wO (fx a d ρ2) fun d' => wO (fx b e ρ2) fun e' => wO (m1D m d' e') fun r => Q r ρ2) X) X := by
  simp only [wE, evE, wR_bind]
  congr 1; funext d ρ1
  cases tyD (mT m) d with
  | true =>
    simp only [Bool.true_eq_false, if_false, true_and, wR_bind]
    congr 1; funext e ρ2
    cases fx a d ρ2 <;> cases fx b e ρ2 <;> first | rfl | exact wR_ofO
  | false => simp only [if_true, Bool.false_eq_true, false_and]; rfl

theorem wE_mm0 {m : Mm} : wE G cf (.mm0 m i) ρ Q X = wO (lk ρ i) fun d => wO (mm0D m d) fun q => Q q.1 (ρ.set i (some q.2)) := by
  simp only [wE, evE]
  cases lk ρ i with
  | none => rfl
  | some d =>
    simp only [wO]
    cases mm0D m d with
    | none => rfl
    | some q => rfl
theorem wE_mm1 {m : Mm} : wE G cf (.mm1 m i a) ρ Q X = wO (lk ρ i) fun d0 => tyD "list" d0 = true ∧ wE G cf a ρ (fun e ρ1 => wO (lk ρ1 i) fun d => wO (fx a e ρ1) fun e' => wO (mm1D m d e') fun q => Q q.1 (ρ1.set i (some q.2))) X := by
  simp only [wE, evE]
  cases lk ρ i with
  | none => rfl
  | some d0 =>
    simp only [wO_some]
    cases tyD "list" d0 with
    | false => simp only [if_true, Bool.false_eq_true, false_and]; rfl
    | true =>
      simp only [Bool.true_eq_false, if_false, true_and, wR_bind]
      congr 1; funext e ρ1
      cases lk ρ1 i with
      | none => rfl
      | some d =>
        cases fx a e ρ1 with
        | none => rfl
        | some e' =>
          simp only [wO_some]
          cases mm1D m d e' with
          | none => rfl
          | some q => rfl
theorem wE_cmpr {e cd : Ex} {tg : Tg} {own : List Nat} {it : It} : wE G cf (.cmpr e tg own it cd) ρ Q X = wI G cf it ρ (fun ds ρ1 => fitn ds.length = true ∧ wL G cf cd e tg own ds ρ1 (fun ys ρ2 => Q (.lst ys) (backE ρ1 ρ2 own)) ⟨⟩) X := by
  simp only [wE, evE, wI, wL, wR_bind]
  congr 1; funext ds ρ1
  cases compL (fun r => evE G cf cd r) (fun r => evE G cf e r) tg own ds ρ1 with
  | ok ys ρ2 => simp only [wR_ite, wR_ok]
  | ex c fs ρ2 => simp only [wR, and_false]
  | no => simp only [wR, and_false]
def kvsO (o : Option D) : Option (List (D × D)) := match o with
  | some (.dct false kvs) => some kvs
  | _ => none
def strO (d : D) : Option Str := match d with
  | .str s => some s
  | _ => none
theorem wE_gin {neg : Bool} : wE G cf (.gin g neg a) ρ Q X = wE G cf a ρ (fun d ρ1 => wO (kvsO G[g]?) fun kvs => wO (strO d) fun s => Q (.bl (if neg then !(dget kvs (.str s)).isSome else (dget kvs (.str s)).isSome)) ρ1) X := by
  simp only [wE, evE, wR_bind]
  congr 1; funext d ρ1
  cases G[g]? with
  | none => cases d <;> rfl
  | some x =>
    cases x with
    | dct t kvs => cases t <;> cases d <;> rfl
    | _ => cases d <;> rfl
theorem wE_gget : wE G cf (.gget g a) ρ Q X = wE G cf a ρ (fun d ρ1 => wO (kvsO G[g]?) fun kvs => wO (strO d) fun s => wO (dget kvs (.str s)) fun r => Q r ρ1) X := by
  simp only [wE, evE, wR_bind]
  congr 1; funext d ρ1
  cases G[g]? with
  | none => cases d <;> rfl
  | some x =>
    cases x with
    | dct t kvs => cases t <;> cases d <;> first | rfl | exact wR_ofO
    | _ => cases d <;> rfl
def dctO (o : Option D) : Option Unit := match o with
  | some (.dct _ _) => some ()
  | _ => none
theorem wR_lk {r : R D} {kvs : List (D × D)} : wR (match r with
    | .ok d ρ1 => if (noFz d && fzE i ρ1) = true then R.ok d (ρ1.set i (some (.dct false kvs))) else .no
    | _ => .no) Q X = wR r (fun d ρ1 => (noFz d && fzE i ρ1) = true ∧ Q d (ρ1.set i (some (.dct false kvs)))) (fun _ _ _ => False) := by
  cases r with
  | ok d ρ1 => simp only [wR_ite, wR_ok]
  | ex c fs ρ1 => rfl
  | no => rfl
theorem wE_lockd : wE G cf (.lockd i a) ρ Q X = wO (kvsO (lk ρ i)) fun kvs => wE G cf a (ρ.set i (some (.fz kvs))) (fun d ρ1 => (noFz d && fzE i ρ1) = true ∧ Q d (ρ1.set i (some (.dct false kvs)))) (fun _ _ _ => False) := by
  simp only [wE, evE]
  cases lk ρ i with
  | none => rfl
  | some d =>
    cases d with
    | dct t kvs =>
      cases t with
      | true => rfl
      | false =>
        exact wR_lk
    | _ => rfl
theorem wE_sdf : wE G cf (.sdf i a b) ρ Q X = wO (dctO (lk ρ i)) fun _ => wE G cf a ρ (fun k ρ1 => wE G cf b ρ1 (fun e ρ2 => wO (lk ρ2 i) fun d => wO (sdfD d k e) fun vd => Q vd.1 (ρ2.set i (some vd.2))) X) X := by
  simp only [wE, evE]
  cases lk ρ i with
  | none => rfl
  | some d =>
    cases d with
    | dct t kvs =>
      simp only [wR_bind]
      show _ = wR _ _ _
      congr 1; funext k ρ1; congr 1; funext e ρ2
      cases lk ρ2 i with
      | none => rfl
      | some d =>
        show wR _ _ _ = wO (sdfD d k e) _
        simp only
        cases sdfD d k e with
        | none => rfl
        | some vd => rfl
    | _ => rfl
theorem wEs_nil : wEs G cf .nil ρ QL X = QL [] ρ := by simp only [wEs, evs, wR_ok]
theorem wEs_cons : wEs G cf (.cons a es) ρ QL X = wE G cf a ρ (fun d ρ1 => wEs G cf es ρ1 (fun ds ρ2 => QL (d :: ds) ρ2) X) X := by simp only [wEs, wE, evs, wR_bind, wR_ok]
theorem wI_ex : wI G cf (.ex a) ρ QL X = wE G cf a ρ (fun d ρ1 => wO (fx a d ρ1) fun d' => wO (itD d') fun ds => QL ds ρ1) X := by
  simp only [wI, wE, evI, wR_bind]
  congr 1; funext d ρ1
  cases fx a d ρ1 <;> first | rfl | exact wR_ofO

def wInt (d : D) (P : Int → Prop) : Prop := match d with
  | .int i => P i
  | _ => False
theorem wI_rng1 : wI G cf (.rng1 a) ρ QL X = wE G cf a ρ (fun d ρ1 => wInt d fun i => okR i = true ∧ QL (rngD 0 i.toNat) ρ1) X := by
  simp only [wI, wE, evI, wR_bind]
  congr 1; funext d ρ1
  cases d <;> first | rfl | simp only [wInt, wR_ite, wR_ok]
theorem wI_rng2 : wI G cf (.rng2 a b) ρ QL X = wE G cf a ρ (fun d ρ1 => wE G cf b ρ1 (fun e ρ2 => wInt d fun i => wInt e fun j => (okR i && okR j) = true ∧ QL (rngD i (j - i).toNat) ρ2) X) X := by
  simp only [wI, wE, evI, wR_bind]
  congr 1; funext d ρ1; congr 1; funext e ρ2
  cases d <;> first | rfl | (cases e <;> first | rfl | simp only [wInt, wR_ite, wR_ok])
theorem wI_zip : wI G cf (.zip a b) ρ QL X = wE G cf a ρ (fun d ρ1 => wE G cf b ρ1 (fun e ρ2 => wO (fx a d ρ2) fun d' => wO (fx b e ρ2) fun e' => wO (zipD d' e') fun ds => QL ds ρ2) X) X := by
  simp only [wI, wE, evI, wR_bind]
  congr 1; funext d ρ1; congr 1; funext e ρ2
  cases fx a d ρ2 <;> cases fx b e ρ2 <;> first | rfl | exact wR_ofO

theorem wI_enum : wI G cf (.enum a) ρ QL X = wE G cf a ρ (fun d ρ1 => wO (fx a d ρ1) fun d' => wO (enumD d') fun ds => QL ds ρ1) X := by
  simp only [wI, wE, evI, wR_bind]
  congr 1; funext d ρ1
  cases fx a d ρ1 <;> first | rfl | exact wR_ofO

variable {N : Env → Prop} {Tq : D → Env → Prop} {B Ct : Env → Prop} {s : Sm} {ss s1 s2 : Sms} {tg : Tg} {it : It}

theorem wSR_nxt : wSR (.nxt ρ) N Tq B Ct X = N ρ := rfl
theorem wS_asg : wS G cf wf (.asg tg a) ρ N Tq B Ct X = wE G cf a ρ (fun d ρ1 => wO (asgT tg d ρ1) fun ρ2 => N ρ2) X := by
  simp only [wS, wE, exS, wSR_bindS]
  congr 1; funext d ρ1
  cases asgT tg d ρ1 <;> rfl

theorem wS_own : wS G cf wf (.own i a) ρ N Tq B Ct X = wE G cf a ρ (fun d ρ1 => N (ρ1.set i (some d))) X := by simp only [wS, wE, exS, wSR_bindS, wSR_nxt]
theorem wSR_ite {p : Prop} [Decidable p] {r : SR} : wSR (if p then r else .no) N Tq B Ct X = (p ∧ wSR r N Tq B Ct X) := by
  by_cases h : p
  · rw [if_pos h]; exact propext ⟨fun q => ⟨h, q⟩, fun q => q.2⟩
  · rw [if_neg h]; exact propext ⟨fun q => q.elim, fun q => h q.1⟩
theorem wS_par {is : List Nat} : wS G cf wf (.par is es) ρ N Tq B Ct X = wEs G cf es ρ (fun ds ρ1 => ds.length = is.length ∧ N (setAll ρ1 is ds)) X := by simp only [wS, wEs, exS, wSR_bindS, wSR_ite, wSR_nxt, decide_eq_true_eq]
theorem wS_setix {k : Ex} : wS G cf wf (.setix i k a) ρ N Tq B Ct X = wE G cf a ρ (fun v ρ1 => (lk ρ1 i).isNone = false ∧ wE G cf k ρ1 (fun kd ρ2 => wO (lk ρ2 i) fun d => wO (setD d kd v) fun d' => N (ρ2.set i (some d'))) X) X := by
  simp only [wS, wE, exS, wSR_bindS]
  congr 1; funext v ρ1
  cases (lk ρ1 i).isNone with
  | true => simp only [if_true, Bool.true_eq_false, false_and]; rfl
  | false =>
    simp only [Bool.false_eq_true, if_false, true_and, wSR_bindS]
    congr 1; funext kd ρ2
    cases lk ρ2 i with
    | none => rfl
    | some d =>
      simp only [wO_some]
      cases setD d kd v <;> rfl

theorem wS_expr : wS G cf wf (.expr a) ρ N Tq B Ct X = wE G cf a ρ (fun _ ρ1 => N ρ1) X := by simp only [wS, wE, exS, wSR_bindS, wSR_nxt]

theorem wS_ite : wS G cf wf (.ite a s1 s2) ρ N Tq B Ct X = wE G cf a ρ (fun d ρ1 => wO (fx a d ρ1) fun d' => wT d' fun k => if k = true then wSs G cf wf s1 ρ1 N Tq B Ct X else wSs G cf wf s2 ρ1 N Tq B Ct X) X := by
  simp only [wS, wSs, wE, exS, wSR_bindS]
  congr 1; funext d ρ1
  cases fx a d ρ1 with
  | none => rfl
  | some d' =>
    simp only [wO_some, wT]
    cases truD d' with
    | none => rfl
    | some k => cases k <;> simp only [wO_some, if_true, Bool.false_eq_true, if_false]

theorem wS_whl : wS G cf wf (.whl a s1) ρ N Tq B Ct X = wW G cf wf a s1 wf ρ N Tq B Ct X ⟨⟩ := by simp only [wS, wW, exS]
theorem wS_fr : wS G cf wf (.fr tg it s1) ρ N Tq B Ct X = wI G cf it ρ (fun ds ρ1 => wF G cf wf s1 tg ds ρ1 N Tq B Ct X ⟨⟩) X := by simp only [wS, wI, wF, exS, wSR_bindS]
theorem wS_ret : wS G cf wf (.ret a) ρ N Tq B Ct X = wE G cf a ρ (fun d ρ1 => Tq d ρ1) X := by
  simp only [wS, wE, exS, wSR_bindS]; rfl
theorem wS_retN : wS G cf wf .retN ρ N Tq B Ct X = Tq .non ρ := by simp only [wS, exS]; rfl
theorem wS_retO : wS G cf wf (.retO i) ρ N Tq B Ct X = wO (lk ρ i) fun d => Tq d ρ := by
  simp only [wS, exS]
  cases lk ρ i <;> rfl

theorem wS_pass : wS G cf wf .pass ρ N Tq B Ct X = N ρ := by simp only [wS, exS, wSR_nxt]
theorem wS_brk : wS G cf wf .brk ρ N Tq B Ct X = B ρ := by simp only [wS, exS]; rfl
theorem wS_cnt : wS G cf wf .cnt ρ N Tq B Ct X = Ct ρ := by simp only [wS, exS]; rfl
theorem wSs_nil : wSs G cf wf .nil ρ N Tq B Ct X = N ρ := by simp only [wSs, exSs, wSR_nxt]
theorem wSs_cons : wSs G cf wf (.cons s ss) ρ N Tq B Ct X = wS G cf wf s ρ (fun ρ1 => wSs G cf wf ss ρ1 N Tq B Ct X) Tq B Ct X := by simp only [wSs, wS, exSs, wSR_bind]
/-! ### loops -/
theorem wL_inv {cd e : Ex} {own : List Nat} {ds : List D} {Q : List D → Env → Prop} (I : Nat → List D → Env → Prop) (h0 : I 0 [] ρ)
    (step : ∀ (i : Nat) (d : D) (ys : List D) (ρ : Env), ds[i]? = some d → I i ys ρ → wO (asgT tg d (wipeE ρ own)) fun ρ1 => wE G cf cd ρ1 (fun k ρ2 => wT k fun t => if t = true then wE G cf e ρ2 (fun y ρ3 => I (i + 1) (ys ++ [y]) ρ3) (fun _ _ _ => False) else I (i + 1) ys ρ2) fun _ _ _ => False)
    (fin : ∀ ys ρ, I ds.length ys ρ → Q ys ρ) : wL G cf cd e tg own ds ρ Q ⟨⟩ := by
  have go : ∀ (rest : List D) (i : Nat) (ys : List D) (ρ : Env), ds.drop i = rest → i + rest.length = ds.length → I i ys ρ → wR (compL (fun r => evE G cf cd r) (fun r => evE G cf e r) tg own rest ρ) (fun zs ρ' => I ds.length (ys ++ zs) ρ') fun _ _ _ => False := by
    intro rest
    induction rest with
    | nil =>
      intro i ys ρ hd hl hi
      simp only [compL, wR, List.append_nil]
      have hl : i = ds.length := by simpa using hl
      subst hl; exact hi
    | cons d rest ih =>
      intro i ys ρ hd hl hi
      have e1 : ds[i]? = some d := by
        have := congrArg List.head? hd
        rw [List.head?_drop] at this
        exact this
      have e2 : ds.drop (i + 1) = rest := by
        have := congrArg List.tail hd
        rw [List.tail_drop] at this
        exact this
      have e3 : i + 1 + rest.length = ds.length := by rw [List.length_cons] at hl; omega
      have st := step i d ys ρ e1 hi
      simp only [compL]
      cases ea : asgT tg d (wipeE ρ own) with
      | none => rw [ea] at st; exact st
      | some ρ1 =>
        rw [ea] at st
        have st : wR (evE G cf cd ρ1) (fun k ρ2 => wT k fun t => if t = true then wE G cf e ρ2 (fun y ρ3 => I (i + 1) (ys ++ [y]) ρ3) (fun _ _ _ => False) else I (i + 1) ys ρ2) (fun _ _ _ => False) := st
        simp only [wR_bind]
        refine wR_imp st (fun k ρ2 h => ?_) fun _ _ _ z => z
        unfold wT at h
        cases et : truD k with
        | none => rw [et] at h; exact h
        | some t =>
          rw [et] at h
          cases t with
          | true =>
            simp only [wO_some, if_true] at h
            simp only [wR_bind]
            refine wR_imp h (fun y ρ3 h => ?_) fun _ _ _ z => z
            refine wR_imp (ih (i + 1) (ys ++ [y]) ρ3 e2 e3 h) (fun zs ρ4 h => ?_) fun _ _ _ z => z
            rw [wR_ok]
            rw [List.append_assoc] at h
            exact h
          | false =>
            simp only [wO_some, Bool.false_eq_true, if_false] at h
            exact ih (i + 1) ys ρ2 e2 e3 h
  have := go ds 0 [] ρ rfl (by simp) h0
  exact wR_imp this (fun ys ρ h => fin _ _ (by simpa using h)) fun _ _ _ z => z
theorem wF_inv {ds : List D} (I : Nat → Env → Prop) (h0 : I 0 ρ)
    (step : ∀ (i : Nat) (d : D) (ρ : Env), ds[i]? = some d → I i ρ → wO (asgT tg d ρ) fun ρ1 => wSs G cf wf s1 ρ1 (fun ρ2 => I (i + 1) ρ2) Tq N (fun ρ2 => I (i + 1) ρ2) X)
    (fin : ∀ ρ, I ds.length ρ → N ρ) : wF G cf wf s1 tg ds ρ N Tq B Ct X ⟨⟩ := by
  have go : ∀ (rest : List D) (i : Nat) (ρ : Env), ds.drop i = rest → i + rest.length = ds.length → I i ρ → wSR (forL (fun r => exSs G cf wf s1 r) tg rest ρ) N Tq B Ct X := by
    intro rest
    induction rest with
    | nil =>
      intro i ρ hd hl hi
      simp only [forL, wSR]
      have hl : i = ds.length := by simpa using hl
      subst hl; exact fin _ hi
    | cons d rest ih =>
      intro i ρ hd hl hi
      have e1 : ds[i]? = some d := by
        have := congrArg List.head? hd
        rw [List.head?_drop] at this
        exact this
      have e2 : ds.drop (i + 1) = rest := by
        have := congrArg List.tail hd
        rw [List.tail_drop] at this
        exact this
      have e3 : i + 1 + rest.length = ds.length := by rw [List.length_cons] at hl; omega
      have st := step i d ρ e1 hi
      simp only [forL]
      cases ea : asgT tg d ρ with
      | none => rw [ea] at st; exact st
      | some ρ1 =>
        rw [ea] at st
        have st : wSR (exSs G cf wf s1 ρ1) (fun ρ2 => I (i + 1) ρ2) Tq N (fun ρ2 => I (i + 1) ρ2) X := st
        simp only
        cases eb : exSs G cf wf s1 ρ1 with
        | nxt ρ2 => rw [eb] at st; exact ih (i + 1) ρ2 e2 e3 st
        | cnt ρ2 => rw [eb] at st; exact ih (i + 1) ρ2 e2 e3 st
        | brk ρ2 => rw [eb] at st; exact st
        | ret d ρ2 => rw [eb] at st; exact st
        | ex c fs ρ2 => rw [eb] at st; exact st
        | no => rw [eb] at st; exact st
  exact go ds 0 ρ rfl (by simp) h0
theorem wW_inv {n : Nat} (I : Nat → Env → Prop) {k0 : Nat} (hk : k0 < n) (h0 : I k0 ρ)
    (step : ∀ (k : Nat) (ρ : Env), I k ρ → wE G cf a ρ (fun d ρ1 => wT d fun t => if t = true then (0 < k ∧ wSs G cf wf s1 ρ1 (fun ρ2 => ∃ j, j < k ∧ I j ρ2) Tq N (fun ρ2 => ∃ j, j < k ∧ I j ρ2) X) else N ρ1) X) : wW G cf wf a s1 n ρ N Tq B Ct X ⟨⟩ := by
  have go : ∀ (n : Nat) (k : Nat) (ρ : Env), k < n → I k ρ → wSR (whlL (fun r => evE G cf a r) (fun r => exSs G cf wf s1 r) n ρ) N Tq B Ct X := by
    intro n
    induction n with
    | zero => intro k ρ h _; omega
    | succ n ih =>
      intro k ρ hk hi
      have st := step k ρ hi
      simp only [whlL, wSR_bindS]
      refine wR_imp st (fun d ρ1 h => ?_) fun _ _ _ z => z
      unfold wT at h
      cases et : truD d with
      | none => rw [et] at h; exact h
      | some t =>
        rw [et] at h
        cases t with
        | true =>
          simp only [wO_some, if_true] at h
          obtain ⟨_, h⟩ := h
          simp only
          have h : wSR (exSs G cf wf s1 ρ1) (fun ρ2 => ∃ j, j < k ∧ I j ρ2) Tq N (fun ρ2 => ∃ j, j < k ∧ I j ρ2) X := h
          cases eb : exSs G cf wf s1 ρ1 with
          | nxt ρ2 => rw [eb] at h; obtain ⟨j, h1, h2⟩ := h; exact ih j ρ2 (by omega) h2
          | cnt ρ2 => rw [eb] at h; obtain ⟨j, h1, h2⟩ := h; exact ih j ρ2 (by omega) h2
          | brk ρ2 => rw [eb] at h; exact h
          | ret d ρ2 => rw [eb] at h; exact h
          | ex c fs ρ2 => rw [eb] at h; exact h
          | no => rw [eb] at h; exact h
        | false =>
          simp only [wO_some, Bool.false_eq_true, if_false] at h
          exact h
  exact go n k0 ρ hk h0
end
/-! ### calls -/
theorem wC_call {G : List D} {fns : List Fn} {wf n f : Nat} {F : Fn} {ds : List D} {Q : D → Env → Prop} {X : XQ} (hF : fns[f]? = some F) (hn : 1 ≤ n) (hl : ds.length = F.np) (hfr : F.fresh = false)
    (h : wSs G (callF G fns wf (n - 1)) wf F.body (ds.map some ++ List.replicate (F.ns - F.np) none) (fun ρ => Q .non (ρ.take F.np)) (fun d ρ => Q d (ρ.take F.np)) (fun _ => False) (fun _ => False) (fun c fs ρ => X c fs (ρ.take F.np))) : wC (callF G fns wf n f ds) Q X := by
  cases n with
  | zero => omega
  | succ n =>
    show wC (match fns[f]? with | some F => runF G (callF G fns wf n) wf F ds | none => .no) Q X
    rw [hF]
    simp only [runF]
    rw [if_pos (by simpa using hl)]
    have h : wSR (exSs G (callF G fns wf n) wf F.body (ds.map some ++ List.replicate (F.ns - F.np) none)) (fun ρ => Q .non (ρ.take F.np)) (fun d ρ => Q d (ρ.take F.np)) (fun _ => False) (fun _ => False) (fun c fs ρ => X c fs (ρ.take F.np)) := h
    cases e : exSs G (callF G fns wf n) wf F.body (ds.map some ++ List.replicate (F.ns - F.np) none) with
    | nxt ρ => rw [e] at h; simp only [hfr, Bool.false_eq_true, if_false]; exact h
    | ret d ρ => rw [e] at h; exact h
    | ex c fs ρ => rw [e] at h; exact h
    | brk ρ => rw [e] at h; exact h
    | cnt ρ => rw [e] at h; exact h
    | no => rw [e] at h; exact h
theorem wC_callF {G : List D} {fns : List Fn} {wf n f : Nat} {F : Fn} {ds : List D} {Q : D → Env → Prop} {X : XQ} (hF : fns[f]? = some F) (hn : 1 ≤ n) (hl : ds.length = F.np)
    (h : wSs G (callF G fns wf (n - 1)) wf F.body (ds.map some ++ List.replicate (F.ns - F.np) none) (fun _ => False) (fun d ρ => Q d (ρ.take F.np)) (fun _ => False) (fun _ => False) (fun c fs ρ => X c fs (ρ.take F.np))) : wC (callF G fns wf n f ds) Q X := by
  cases n with
  | zero => omega
  | succ n =>
    show wC (match fns[f]? with | some F => runF G (callF G fns wf n) wf F ds | none => .no) Q X
    rw [hF]
    simp only [runF]
    rw [if_pos (by simpa using hl)]
    have h : wSR (exSs G (callF G fns wf n) wf F.body (ds.map some ++ List.replicate (F.ns - F.np) none)) (fun _ => False) (fun d ρ => Q d (ρ.take F.np)) (fun _ => False) (fun _ => False) (fun c fs ρ => X c fs (ρ.take F.np)) := h
    cases e : exSs G (callF G fns wf n) wf F.body (ds.map some ++ List.replicate (F.ns - F.np) none) with
    | nxt ρ => rw [e] at h; exact h.elim
    | ret d ρ => rw [e] at h; exact h
    | ex c fs ρ => rw [e] at h; exact h
    | brk ρ => rw [e] at h; exact h
    | cnt ρ => rw [e] at h; exact h
    | no => rw [e] at h; exact h
end PD
end

section
set_option Elab.async false
set_option linter.all false
set_option maxRecDepth 100000
set_option maxHeartbeats 1000000
/-! QD: what the operations ask, by the data's shape (printed by mkqd.py) -/
namespace PD
open PySem PySem.Spec PyProof.Rows L2
def reprOk (d : D) : Bool := pln 60 d && (py d).showable && decide ((py d).shown.length ≤ sizeLine) && decide ((py d).depth ≤ 60)
def sdfK (kvs : List (D × D)) (z : Str) (e : D) : D × D := match dget kvs (.str z) with
  | some v => (v, .dct false kvs)
  | none => (e, .dct false (kvs ++ [(.str z, e)]))
def cleanE : Exs → Bool
  | .nil => true
  | .cons e es => (isBor e).isNone && cleanE es
theorem cleanE_of : ∀ {es : Exs} {io ρ : Env}, cleanE es = true → putIo ρ es io = ρ
  | .nil, io, _, _ => by cases io <;> rfl
  | .cons e es, [], _, _ => rfl
  | .cons e es, o :: os, ρ, h => by
    have h : ((isBor e).isNone && cleanE es) = true := h
    rw [Bool.and_eq_true] at h
    unfold putIo
    cases q : isBor e with
    | none => exact cleanE_of h.2
    | some i => rw [q] at h; cases h.1
/-- putIo, step by step -/
def putIo2 (ρ : Env) (es : Exs) (io : Env) : Env := putIo ρ es io
section
variable {es0 : Exs} {ρ : Env} {P : D → Prop} {PL : List D → Prop} {PO : Option Int → Prop} {PE : Env → Prop} {PB : Bool → Prop} {PZ : Int → Prop} {PP : D × D → Prop} {PS : Str → Prop} {PN : Nat → Prop} {PU : Unit → Prop} {PK : List (D × D) → Prop}
  {α : Type} {y y2 y3 y4 : α} {ys : List α} {PY : α → Prop} {d d1 : D} {ds ds1 : List D} {x : Option D} {i g f n k : Nat} {is own : List Nat} {a b c : Ex} {es ks vs : Exs} {z z1 : Int} {b0 t0 : Bool} {s0 s1 : Str} {ns : List Int} {kvs : List (D × D)}
  {o : Bop} {co co2 : Cop} {k1 : B1} {k2 : B2} {ty : Ty} {mt : Mt} {mm : Mm} {tg : Tg} {it : It} {o1 o2 : Option Int} {io : Env}

theorem q_fx_lockd : wO (fx (.lockd i a) d ρ) P = P d := id rfl
theorem q_fx_sdf : wO (fx (.sdf i a b) d ρ) P = P d := id rfl
theorem q_fx_var : wO (fx (.var i) d ρ) P = P d := id rfl
theorem q_fx_non : wO (fx .non d ρ) P = P d := id rfl
theorem q_fx_bl : wO (fx (.bl b0) d ρ) P = P d := id rfl
theorem q_fx_int : wO (fx (.int z) d ρ) P = P d := id rfl
theorem q_fx_str : wO (fx (.str s0) d ρ) P = P d := id rfl
theorem q_fx_nop : wO (fx .nop d ρ) P = P d := id rfl
theorem q_fx_glo : wO (fx (.glo g) d ρ) P = P d := id rfl
theorem q_fx_tup : wO (fx (.tup es) d ρ) P = P d := id rfl
theorem q_fx_lst : wO (fx (.lst es) d ρ) P = P d := id rfl
theorem q_fx_dct : wO (fx (.dct t0 ks vs) d ρ) P = P d := id rfl
theorem q_fx_bin : wO (fx (.bin o a b) d ρ) P = P d := id rfl
theorem q_fx_neg : wO (fx (.neg a) d ρ) P = P d := id rfl
theorem q_fx_cmp : wO (fx (.cmp co a b) d ρ) P = P d := id rfl
theorem q_fx_chn : wO (fx (.chn co co2 a b c) d ρ) P = P d := id rfl
theorem q_fx_nt : wO (fx (.nt a) d ρ) P = P d := id rfl
theorem q_fx_an : wO (fx (.an a b) d ρ) P = P d := id rfl
theorem q_fx_orr : wO (fx (.orr a b) d ρ) P = P d := id rfl
theorem q_fx_ite : wO (fx (.ite a b c) d ρ) P = P d := id rfl
theorem q_fx_ix : wO (fx (.ix a b) d ρ) P = P d := id rfl
theorem q_fx_sl : wO (fx (.sl a b c) d ρ) P = P d := id rfl
theorem q_fx_rev : wO (fx (.rev a) d ρ) P = P d := id rfl
theorem q_fx_cal : wO (fx (.cal f es) d ρ) P = P d := id rfl
theorem q_fx_b1 : wO (fx (.b1 k1 a) d ρ) P = P d := id rfl
theorem q_fx_b2 : wO (fx (.b2 k2 a b) d ρ) P = P d := id rfl
theorem q_fx_isi : wO (fx (.isi a ty) d ρ) P = P d := id rfl
theorem q_fx_m0 : wO (fx (.m0 mt a) d ρ) P = P d := id rfl
theorem q_fx_m1 : wO (fx (.m1 mt a b) d ρ) P = P d := id rfl
theorem q_fx_m2 : wO (fx (.m2 mt a b c) d ρ) P = P d := id rfl
theorem q_fx_mm0 : wO (fx (.mm0 mm i) d ρ) P = P d := id rfl
theorem q_fx_mm1 : wO (fx (.mm1 mm i a) d ρ) P = P d := id rfl
theorem q_fx_cmpr : wO (fx (.cmpr a tg own it b) d ρ) P = P d := id rfl
theorem q_fx_gin : wO (fx (.gin g b0 a) d ρ) P = P d := id rfl
theorem q_fx_gget : wO (fx (.gget g a) d ρ) P = P d := id rfl
theorem q_fx_bor : wO (fx (.bor i) d ρ) P = wO (lk ρ i) P := id rfl
theorem q_fxs_nil : wO (fxs .nil [] ρ) PL = PL [] := id rfl
theorem q_fxs_cons : wO (fxs (.cons a es) (d :: ds) ρ) PL = wO (fx a d ρ) fun d1 => wO (fxs es ds ρ) fun r => PL (d1 :: r) := by
  simp only [fxs]
  cases fx a d ρ <;> cases fxs es ds ρ <;> rfl
theorem q_lk_z : wO (lk (x :: ρ) 0) P = wO x P := by cases x <;> rfl
theorem q_lk_s : wO (lk (x :: ρ) (i + 1)) P = wO (lk ρ i) P := id rfl
theorem q_wO_s : wO (some y) PY = PY y := id rfl
theorem q_ixO_nop : wO (ixO .nop d) PO = PO none := id rfl
theorem q_ixO_lockd : wO (ixO (.lockd i a) (.int z1)) PO = PO (some z1) := id rfl
theorem q_ixO_sdf : wO (ixO (.sdf i a b) (.int z1)) PO = PO (some z1) := id rfl
theorem q_ixO_var : wO (ixO (.var i) (.int z1)) PO = PO (some z1) := id rfl
theorem q_ixO_non : wO (ixO .non (.int z1)) PO = PO (some z1) := id rfl
theorem q_ixO_bl : wO (ixO (.bl b0) (.int z1)) PO = PO (some z1) := id rfl
theorem q_ixO_int : wO (ixO (.int z) (.int z1)) PO = PO (some z1) := id rfl
theorem q_ixO_str : wO (ixO (.str s0) (.int z1)) PO = PO (some z1) := id rfl
theorem q_ixO_glo : wO (ixO (.glo g) (.int z1)) PO = PO (some z1) := id rfl
theorem q_ixO_tup : wO (ixO (.tup es) (.int z1)) PO = PO (some z1) := id rfl
theorem q_ixO_lst : wO (ixO (.lst es) (.int z1)) PO = PO (some z1) := id rfl
theorem q_ixO_dct : wO (ixO (.dct t0 ks vs) (.int z1)) PO = PO (some z1) := id rfl
theorem q_ixO_bin : wO (ixO (.bin o a b) (.int z1)) PO = PO (some z1) := id rfl
theorem q_ixO_neg : wO (ixO (.neg a) (.int z1)) PO = PO (some z1) := id rfl
theorem q_ixO_cmp : wO (ixO (.cmp co a b) (.int z1)) PO = PO (some z1) := id rfl
theorem q_ixO_chn : wO (ixO (.chn co co2 a b c) (.int z1)) PO = PO (some z1) := id rfl
theorem q_ixO_nt : wO (ixO (.nt a) (.int z1)) PO = PO (some z1) := id rfl
theorem q_ixO_an : wO (ixO (.an a b) (.int z1)) PO = PO (some z1) := id rfl
theorem q_ixO_orr : wO (ixO (.orr a b) (.int z1)) PO = PO (some z1) := id rfl
theorem q_ixO_ite : wO (ixO (.ite a b c) (.int z1)) PO = PO (some z1) := id rfl
theorem q_ixO_ix : wO (ixO (.ix a b) (.int z1)) PO = PO (some z1) := id rfl
theorem q_ixO_sl : wO (ixO (.sl a b c) (.int z1)) PO = PO (some z1) := id rfl
theorem q_ixO_rev : wO (ixO (.rev a) (.int z1)) PO = PO (some z1) := id rfl
theorem q_ixO_cal : wO (ixO (.cal f es) (.int z1)) PO = PO (some z1) := id rfl
theorem q_ixO_b1 : wO (ixO (.b1 k1 a) (.int z1)) PO = PO (some z1) := id rfl
theorem q_ixO_b2 : wO (ixO (.b2 k2 a b) (.int z1)) PO = PO (some z1) := id rfl
theorem q_ixO_isi : wO (ixO (.isi a ty) (.int z1)) PO = PO (some z1) := id rfl
theorem q_ixO_m0 : wO (ixO (.m0 mt a) (.int z1)) PO = PO (some z1) := id rfl
theorem q_ixO_m1 : wO (ixO (.m1 mt a b) (.int z1)) PO = PO (some z1) := id rfl
theorem q_ixO_m2 : wO (ixO (.m2 mt a b c) (.int z1)) PO = PO (some z1) := id rfl
theorem q_ixO_mm0 : wO (ixO (.mm0 mm i) (.int z1)) PO = PO (some z1) := id rfl
theorem q_ixO_mm1 : wO (ixO (.mm1 mm i a) (.int z1)) PO = PO (some z1) := id rfl
theorem q_ixO_cmpr : wO (ixO (.cmpr a tg own it b) (.int z1)) PO = PO (some z1) := id rfl
theorem q_ixO_gin : wO (ixO (.gin g b0 a) (.int z1)) PO = PO (some z1) := id rfl
theorem q_ixO_gget : wO (ixO (.gget g a) (.int z1)) PO = PO (some z1) := id rfl
theorem q_asgT_nm : wO (asgT (.nm i) d ρ) PE = PE (ρ.set i (some d)) := id rfl
theorem q_asgT_tp : wO (asgT (.tp is) (.tup ds) ρ) PE = (ds.length = is.length ∧ PE (setAll ρ is ds)) := by
  simp only [asgT, wO_ite, decide_eq_true_eq, wO_some]
theorem q_asgT_tl : wO (asgT (.tp is) (.lst ds) ρ) PE = (ds.length = is.length ∧ PE (setAll ρ is ds)) := by
  simp only [asgT, wO_ite, decide_eq_true_eq, wO_some]
theorem q_it_fz : wO (itD (.fz kvs)) PL = PL (kvs.map (·.1)) := id rfl
theorem q_ix_fz : wO (ixD (.fz kvs) (.str s0)) P = wO (dget kvs (.str s0)) P := id rfl
theorem q_ix_dct : wO (ixD (.dct false kvs) (.str s0)) P = wO (dget kvs (.str s0)) P := id rfl
theorem q_srt : wO (b1D .sorted (.lst ds)) P = wO (strsD ds) fun ss => P (.lst ((srtS ss).map .str)) := by simp only [b1D, srtD, wO_map]
theorem q_sst : wO (b1D .sset (.lst ds)) P = wO (strsD ds) fun ss => (ss.length + 1 < scanBound ∧ P (.lst ((srtS (dedS ss)).map .str))) := by
  simp only [b1D, sstD]
  cases strsD ds with
  | none => rfl
  | some ss => simp only [wO_ite, wO_some, decide_eq_true_eq]
theorem q_sdf : wO (sdfD (.dct false kvs) (.str s0) d) PP = (kvs.length < sizeLine ∧ PP (sdfK kvs s0 d)) := by
  simp only [sdfD, sdfK]
  by_cases h : kvs.length < sizeLine
  · simp only [h, decide_true, if_true, true_and]
    cases dget kvs (.str s0) <;> rfl
  · simp only [h, decide_false, Bool.false_eq_true, if_false, false_and]; rfl
theorem q_dctO : wO (dctO (some (.dct t0 kvs))) PU = PU () := id rfl
theorem q_setAll_nil : setAll ρ [] ds = ρ := by cases ds <;> rfl
theorem q_setAll_cons : setAll ρ (i :: is) (d :: ds) = setAll (ρ.set i (some d)) is ds := id rfl
theorem q_wT_non : wT .non PB = PB false := id rfl
theorem q_wT_bl : wT (.bl b0) PB = PB b0 := id rfl
theorem q_wT_int : wT (.int z) PB = PB (z != 0) := id rfl
theorem q_wT_tup : wT (.tup ds) PB = PB (!ds.isEmpty) := id rfl
theorem q_wT_lst : wT (.lst ds) PB = PB (!ds.isEmpty) := id rfl
theorem q_wT_str : wT (.str s0) PB = (fits s0 = true ∧ PB ((s0.length : Int) != 0)) := by simp only [wT, truD, wO_ite, wO_some]
theorem q_wB_bl : wB (.bl b0) PB = PB b0 := id rfl
theorem q_wInt_int : wInt (.int z) PZ = PZ z := id rfl
theorem q_bin_add : wO (binD .add (.int z) (.int z1)) P = P (.int (z + z1)) := id rfl
theorem q_bin_sub : wO (binD .sub (.int z) (.int z1)) P = P (.int (z - z1)) := id rfl
theorem q_bin_mul : wO (binD .mul (.int z) (.int z1)) P = (mulOk z z1 = true ∧ P (.int (z * z1))) := by simp only [binD, wO_ite, wO_some]
theorem q_bin_mod : wO (binD .mod (.int z) (.int z1)) P = (0 < z1 ∧ P (.int (z % z1))) := by simp only [binD, wO_ite, wO_some, decide_eq_true_eq]
theorem q_bin_fdiv : wO (binD .fdiv (.int z) (.int z1)) P = ((0 < z1 ∧ z1.natAbs.log2 < 9000) ∧ P (.int (z / z1))) := by simp only [binD, wO_ite, wO_some, Bool.and_eq_true, decide_eq_true_eq]
theorem q_bin_pow : wO (binD .pow (.int z) (.int z1)) P = (((0 ≤ z1 ∧ z1 ≤ 1000000) ∧ z.natAbs < 2 ^ 64) ∧ P (.int (z ^ z1.toNat))) := by simp only [binD, wO_ite, wO_some, Bool.and_eq_true, decide_eq_true_eq]
theorem q_bin_adds : wO (binD .add (.str s0) (.str s1)) P = (fitn (s0.length + s1.length) = true ∧ P (.str (s0 ++ s1))) := by simp only [binD, wO_ite, wO_some]
theorem q_bin_addt : wO (binD .add (.tup ds) (.tup ds1)) P = (fitn (ds.length + ds1.length) = true ∧ P (.tup (ds ++ ds1))) := by simp only [binD, wO_ite, wO_some]
theorem q_bin_addl : wO (binD .add (.lst ds) (.lst ds1)) P = (fitn (ds.length + ds1.length) = true ∧ P (.lst (ds ++ ds1))) := by simp only [binD, wO_ite, wO_some]
theorem q_neg_int : wO (negD (.int z)) P = P (.int (-z)) := id rfl
theorem q_cmp_lt : wO (cmpD .lt (.int z) (.int z1)) P = P (.bl (decide (z < z1))) := id rfl
theorem q_cmp_le : wO (cmpD .le (.int z) (.int z1)) P = P (.bl (decide (z ≤ z1))) := id rfl
theorem q_cmp_gt : wO (cmpD .gt (.int z) (.int z1)) P = P (.bl (decide (z1 < z))) := id rfl
theorem q_cmp_ge : wO (cmpD .ge (.int z) (.int z1)) P = P (.bl (decide (z1 ≤ z))) := id rfl
theorem q_cmp_eq : wO (cmpD .eq d d1) P = wO (eqD d d1) fun k => P (.bl k) := by simp only [cmpD, wO_map]
theorem q_cmp_ne : wO (cmpD .ne d d1) P = wO (eqD d d1) fun k => P (.bl (!k)) := by simp only [cmpD, wO_map]
theorem q_cmp_in : wO (cmpD .isin d d1) P = wO (inD d d1) fun k => P (.bl k) := by simp only [cmpD, wO_map]
theorem q_cmp_nin : wO (cmpD .nin d d1) P = wO (inD d d1) fun k => P (.bl (!k)) := by simp only [cmpD, wO_map]
theorem q_cmp_is : wO (cmpD .is d .non) P = P (.bl (isNonD d)) := id rfl
theorem q_cmp_isn : wO (cmpD .isn d .non) P = P (.bl (!isNonD d)) := id rfl
theorem q_eq_int : wO (eqD (.int z) (.int z1)) PB = PB (decide (z = z1)) := id rfl
theorem q_eq_str : wO (eqD (.str s0) (.str s1)) PB = PB (decide (s0 = s1)) := id rfl
theorem q_eq_tupn : wO (eqD (.tup ds) (.tup [])) PB = PB ds.isEmpty := by cases ds <;> rfl
theorem q_eq_ntup : wO (eqD (.tup []) (.tup ds)) PB = PB ds.isEmpty := id rfl
theorem q_eq_lstn : wO (eqD (.lst ds) (.lst [])) PB = PB ds.isEmpty := id rfl
theorem q_in_str : wO (inD (.str s0) (.str s1)) PB = PB (sub1 s0 s1) := id rfl
theorem q_ix_lst : wO (ixD (.lst ds) (.int z)) P = wO (atI ds z) P := id rfl
theorem q_ix_tup : wO (ixD (.tup ds) (.int z)) P = wO (atI ds z) P := id rfl
theorem q_ix_scr : wO (ixD (.scr ns) (.int z)) P = wO (atI ns z) fun n => P (.int n) := by simp only [ixD, wO_map]
theorem q_ix_str : wO (ixD (.str s0) (.int z)) P = (fits s0 = true ∧ wO (atI s0.cps.toList z) fun c => P (.str ⟨#[c]⟩)) := by simp only [ixD, wO_ite, wO_map]
theorem q_sl_tup : wO (slD o1 o2 (.tup ds)) P = P (.tup (cutD ds o1 o2)) := id rfl
theorem q_sl_lst : wO (slD o1 o2 (.lst ds)) P = P (.lst (cutD ds o1 o2)) := id rfl
theorem q_sl_scr : wO (slD o1 o2 (.scr ns)) P = P (.lst (cutD (ns.map .int) o1 o2)) := id rfl
theorem q_sl_str : wO (slD o1 o2 (.str s0)) P = (fits s0 = true ∧ P (.str (cutS s0 o1 o2))) := by simp only [slD, wO_ite, wO_some]
theorem q_rev_tup : wO (revD (.tup ds)) P = P (.tup ds.reverse) := id rfl
theorem q_rev_lst : wO (revD (.lst ds)) P = P (.lst ds.reverse) := id rfl
theorem q_rev_str : wO (revD (.str s0)) P = (fits s0 = true ∧ P (.str ⟨s0.cps.toList.reverse.toArray⟩)) := by simp only [revD, wO_ite, wO_some]
theorem q_len_lst : wO (b1D .len (.lst ds)) P = P (.int ds.length) := id rfl
theorem q_len_tup : wO (b1D .len (.tup ds)) P = P (.int ds.length) := id rfl
theorem q_len_scr : wO (b1D .len (.scr ns)) P = P (.int ns.length) := id rfl
theorem q_len_str : wO (b1D .len (.str s0)) P = (fits s0 = true ∧ P (.int s0.length)) := by
  simp only [b1D, lenD]
  by_cases h : fits s0 = true <;> simp [h, wO]
theorem q_abs_int : wO (b1D .abs (.int z)) P = P (.int (if z < 0 then -z else z)) := id rfl
theorem q_int_int : wO (b1D .int (.int z)) P = P (.int z) := id rfl
theorem q_int_bl : wO (b1D .int (.bl b0)) P = P (.int (if b0 then 1 else 0)) := id rfl
theorem q_str_int : wO (b1D .str (.int z)) P = (z.natAbs.log2 < 1920 ∧ P (.str (toString z))) := by simp only [b1D, wO_ite, wO_some, decide_eq_true_eq]
theorem q_all_lst : wO (b1D .all (.lst ds)) P = wO (blsD ds) fun bs => P (.bl (bs.all id)) := by simp only [b1D, wO_map]
theorem q_any_lst : wO (b1D .any (.lst ds)) P = wO (blsD ds) fun bs => P (.bl (bs.any id)) := by simp only [b1D, wO_map]
theorem q_tup_lst : wO (b1D .tuple (.lst ds)) P = P (.tup ds) := id rfl
theorem q_tup_tup : wO (b1D .tuple (.tup ds)) P = P (.tup ds) := id rfl
theorem q_lst_tup : wO (b1D .list (.tup ds)) P = P (.lst ds) := id rfl
theorem q_lst_lst : wO (b1D .list (.lst ds)) P = P (.lst ds) := id rfl
theorem q_rep_any : wO (b1D .repr d) P = (reprOk d = true ∧ P (.str (py d).shown)) := by cases d <;> simp only [b1D, reprOk, wO_ite, wO_some]
theorem q_max_two : wO (b2D .max (.int z) (.int z1)) P = P (.int (if z1 > z then z1 else z)) := id rfl
theorem q_min_two : wO (b2D .min (.int z) (.int z1)) P = P (.int (if z1 < z then z1 else z)) := id rfl
theorem q_up_str : wO (m0D .upper (.str s0)) P = (s0.length ≤ 5592405 ∧ P (.str (Txt.upper s0))) := by simp only [m0D, wO_ite, wO_some, decide_eq_true_eq]
theorem q_split_str : wO (m1D .split (.str s0) (.str s1)) P = (((s1.length == 0) = false ∧ fitn (s0.length + 2) = true) ∧ P (.lst ((Txt.split s0 s1).map .str))) := by simp only [m1D, wO_ite, wO_some, Bool.and_eq_true, decide_eq_true_eq]
theorem q_join_str : wO (m1D .join (.str s0) (.lst ds)) P = wO (strsD ds) fun ys => ((ys.map (·.length)).sum + ys.length * s0.length ≤ 16777216 ∧ P (.str (Txt.join s0 ys))) := by
  simp only [m1D]
  cases strsD ds with
  | none => rfl
  | some ys => simp only [wO_ite, wO_some, decide_eq_true_eq]
theorem q_strip_str : wO (m1D .strip (.str s0) (.str s1)) P = (fits s0 = true ∧ P (.str (Txt.stripChars s0 s1))) := by simp only [m1D, wO_ite, wO_some]
theorem q_index_lst : wO (m1D .index (.lst ds) d) P = wO (idxD ds d) fun n => P (.int n) := by
  simp only [m1D]
  cases idxD ds d <;> rfl
theorem q_app_lst : wO (mm1D .append (.lst ds) d) PP = (ds.length < sizeLine ∧ PP (.non, .lst (ds ++ [d]))) := by simp only [mm1D, wO_ite, wO_some, decide_eq_true_eq]
theorem q_ext_lst : wO (mm1D .extend (.lst ds) (.lst ds1)) PP = (fitn (ds.length + ds1.length) = true ∧ PP (.non, .lst (ds ++ ds1))) := by simp only [mm1D, wO_ite, wO_some]
theorem q_pop_lst : wO (mm0D .pop (.lst ds)) PP = wO ds[ds.length - 1]? fun y => PP (y, .lst ds.dropLast) := by simp only [mm0D, wO_map]
theorem q_ty_list : (tyD "list" (.lst ds) = true) = True := by simp [tyD]
theorem q_ty_str : (tyD (mT .split) (.str s0) = true) = True := by simp [tyD, mT]
theorem q_ty_str2 : (tyD (mT .join) (.str s0) = true) = True := by simp [tyD, mT]
theorem q_ty_str3 : (tyD (mT .strip) (.str s0) = true) = True := by simp [tyD, mT]
theorem q_ty_idx : (tyD (mT .index) (.lst ds) = true) = True := by simp [tyD, mT]
theorem q_set_lst : wO (setD (.lst ds) (.int z) d) P = wO (ixN ds.length z) fun j => P (.lst (ds.set j d)) := by simp only [setD, wO_map]
theorem q_strO_str : wO (strO (.str s0)) PS = PS s0 := id rfl
theorem q_it_tup : wO (itD (.tup ds)) PL = PL ds := id rfl
theorem q_it_lst : wO (itD (.lst ds)) PL = PL ds := id rfl
theorem q_it_scr : wO (itD (.scr ns)) PL = PL (ns.map .int) := id rfl
theorem q_it_str : wO (itD (.str s0)) PL = PL (charsD s0) := id rfl
theorem q_zip_st : wO (zipD (.str s0) (.tup ds)) PL = PL (pairD (charsD s0) ds) := id rfl
theorem q_zip_ll : wO (zipD (.lst ds) (.lst ds1)) PL = PL (pairD ds ds1) := id rfl
theorem q_zip_tt : wO (zipD (.tup ds) (.tup ds1)) PL = PL (pairD ds ds1) := id rfl
theorem q_enum_l : wO (enumD (.lst ds)) PL = PL ((ds.zipIdx).map fun p => .tup [.int p.2, p.1]) := id rfl
theorem q_enum_t : wO (enumD (.tup ds)) PL = PL ((ds.zipIdx).map fun p => .tup [.int p.2, p.1]) := id rfl
theorem q_isi_non : wO (isiD .non ty) PB = PB false := id rfl
theorem q_isi_bl : wO (isiD (.bl b0) ty) PB = PB (ty == .bool || ty == .int) := id rfl
theorem q_isi_int : wO (isiD (.int z) ty) PB = PB (ty == .int) := id rfl
theorem q_isi_str : wO (isiD (.str s0) ty) PB = PB (ty == .str) := id rfl
theorem q_isi_tup : wO (isiD (.tup ds) ty) PB = PB (ty == .tuple) := id rfl
theorem q_isi_lst : wO (isiD (.lst ds) ty) PB = PB (ty == .list) := id rfl
theorem q_isi_dct : wO (isiD (.dct t0 kvs) ty) PB = PB (ty == .dict) := id rfl
theorem q_at0 : wO (atI (y :: ys) (0 : Int)) PY = PY y := by
  have : ixN (ys.length + 1) 0 = some 0 := by unfold ixN; rw [if_pos (by omega), if_pos (by omega)]; rfl
  simp only [atI, List.length_cons, this]; rfl
theorem q_at1 : wO (atI (y :: y2 :: ys) (1 : Int)) PY = PY y2 := by
  have : ixN (ys.length + 1 + 1) 1 = some 1 := by unfold ixN; rw [if_pos (by omega), if_pos (by omega)]; rfl
  simp only [atI, List.length_cons, this]; rfl
theorem q_at2 : wO (atI (y :: y2 :: y3 :: ys) (2 : Int)) PY = PY y3 := by
  have : ixN (ys.length + 1 + 1 + 1) 2 = some 2 := by unfold ixN; rw [if_pos (by omega), if_pos (by omega)]; rfl
  simp only [atI, List.length_cons, this]; rfl
theorem q_at3 : wO (atI (y :: y2 :: y3 :: y4 :: ys) (3 : Int)) PY = PY y4 := by
  have : ixN (ys.length + 1 + 1 + 1 + 1) 3 = some 3 := by unfold ixN; rw [if_pos (by omega), if_pos (by omega)]; rfl
  simp only [atI, List.length_cons, this]; rfl
theorem q_ixn0 : wO (ixN n (0 : Int)) PN = (0 < n ∧ PN 0) := by
  unfold ixN
  rw [if_pos (by omega)]
  by_cases h : 0 < n
  · rw [if_pos (by omega)]; exact propext ⟨fun q => ⟨h, q⟩, fun q => q.2⟩
  · rw [if_neg (by omega)]; exact propext ⟨fun q => q.elim, fun q => h q.1⟩
theorem q_ixn1 : wO (ixN n (1 : Int)) PN = (1 < n ∧ PN 1) := by
  unfold ixN
  rw [if_pos (by omega)]
  by_cases h : 1 < n
  · rw [if_pos (by omega)]; exact propext ⟨fun q => ⟨h, q⟩, fun q => q.2⟩
  · rw [if_neg (by omega)]; exact propext ⟨fun q => q.elim, fun q => h q.1⟩
theorem q_ixn2 : wO (ixN n (2 : Int)) PN = (2 < n ∧ PN 2) := by
  unfold ixN
  rw [if_pos (by omega)]
  by_cases h : 2 < n
  · rw [if_pos (by omega)]; exact propext ⟨fun q => ⟨h, q⟩, fun q => q.2⟩
  · rw [if_neg (by omega)]; exact propext ⟨fun q => q.elim, fun q => h q.1⟩
theorem q_ixn3 : wO (ixN n (3 : Int)) PN = (3 < n ∧ PN 3) := by
  unfold ixN
  rw [if_pos (by omega)]
  by_cases h : 3 < n
  · rw [if_pos (by omega)]; exact propext ⟨fun q => ⟨h, q⟩, fun q => q.2⟩
  · rw [if_neg (by omega)]; exact propext ⟨fun q => q.elim, fun q => h q.1⟩
theorem q_ixn4 : wO (ixN n (4 : Int)) PN = (4 < n ∧ PN 4) := by
  unfold ixN
  rw [if_pos (by omega)]
  by_cases h : 4 < n
  · rw [if_pos (by omega)]; exact propext ⟨fun q => ⟨h, q⟩, fun q => q.2⟩
  · rw [if_neg (by omega)]; exact propext ⟨fun q => q.elim, fun q => h q.1⟩
theorem q_ixn5 : wO (ixN n (5 : Int)) PN = (5 < n ∧ PN 5) := by
  unfold ixN
  rw [if_pos (by omega)]
  by_cases h : 5 < n
  · rw [if_pos (by omega)]; exact propext ⟨fun q => ⟨h, q⟩, fun q => q.2⟩
  · rw [if_neg (by omega)]; exact propext ⟨fun q => q.elim, fun q => h q.1⟩
theorem q_ixn6 : wO (ixN n (6 : Int)) PN = (6 < n ∧ PN 6) := by
  unfold ixN
  rw [if_pos (by omega)]
  by_cases h : 6 < n
  · rw [if_pos (by omega)]; exact propext ⟨fun q => ⟨h, q⟩, fun q => q.2⟩
  · rw [if_neg (by omega)]; exact propext ⟨fun q => q.elim, fun q => h q.1⟩
theorem q_ixn7 : wO (ixN n (7 : Int)) PN = (7 < n ∧ PN 7) := by
  unfold ixN
  rw [if_pos (by omega)]
  by_cases h : 7 < n
  · rw [if_pos (by omega)]; exact propext ⟨fun q => ⟨h, q⟩, fun q => q.2⟩
  · rw [if_neg (by omega)]; exact propext ⟨fun q => q.elim, fun q => h q.1⟩
theorem q_lkn : (lk (x :: ρ) (i + 1)).isNone = (lk ρ i).isNone := id rfl
theorem q_lkn0 : (lk (some d :: ρ) 0).isNone = false := id rfl
theorem q_lk0 : lk (x :: ρ) 0 = x := by cases x <;> rfl
theorem q_lkS : lk (x :: ρ) (i + 1) = lk ρ i := id rfl
theorem q_wipe_nil : wipeE ρ [] = ρ := id rfl
theorem q_wipe_cons : wipeE ρ (i :: own) = (wipeE ρ own).set i none := id rfl
theorem q_back_nil : backE io ρ [] = ρ := id rfl
theorem q_back_cons : backE io ρ (i :: own) = (backE io ρ own).set i (lk io i) := id rfl
theorem q_ty_int_int : ((Ty.int == Ty.int) = true) := by decide
theorem q_ty_int_str : ((Ty.int == Ty.str) = false) := by decide
theorem q_ty_int_bool : ((Ty.int == Ty.bool) = false) := by decide
theorem q_ty_int_tuple : ((Ty.int == Ty.tuple) = false) := by decide
theorem q_ty_int_list : ((Ty.int == Ty.list) = false) := by decide
theorem q_ty_int_dict : ((Ty.int == Ty.dict) = false) := by decide
theorem q_ty_str_int : ((Ty.str == Ty.int) = false) := by decide
theorem q_ty_str_str : ((Ty.str == Ty.str) = true) := by decide
theorem q_ty_str_bool : ((Ty.str == Ty.bool) = false) := by decide
theorem q_ty_str_tuple : ((Ty.str == Ty.tuple) = false) := by decide
theorem q_ty_str_list : ((Ty.str == Ty.list) = false) := by decide
theorem q_ty_str_dict : ((Ty.str == Ty.dict) = false) := by decide
theorem q_ty_bool_int : ((Ty.bool == Ty.int) = false) := by decide
theorem q_ty_bool_str : ((Ty.bool == Ty.str) = false) := by decide
theorem q_ty_bool_bool : ((Ty.bool == Ty.bool) = true) := by decide
theorem q_ty_bool_tuple : ((Ty.bool == Ty.tuple) = false) := by decide
theorem q_ty_bool_list : ((Ty.bool == Ty.list) = false) := by decide
theorem q_ty_bool_dict : ((Ty.bool == Ty.dict) = false) := by decide
theorem q_ty_tuple_int : ((Ty.tuple == Ty.int) = false) := by decide
theorem q_ty_tuple_str : ((Ty.tuple == Ty.str) = false) := by decide
theorem q_ty_tuple_bool : ((Ty.tuple == Ty.bool) = false) := by decide
theorem q_ty_tuple_tuple : ((Ty.tuple == Ty.tuple) = true) := by decide
theorem q_ty_tuple_list : ((Ty.tuple == Ty.list) = false) := by decide
theorem q_ty_tuple_dict : ((Ty.tuple == Ty.dict) = false) := by decide
theorem q_ty_list_int : ((Ty.list == Ty.int) = false) := by decide
theorem q_ty_list_str : ((Ty.list == Ty.str) = false) := by decide
theorem q_ty_list_bool : ((Ty.list == Ty.bool) = false) := by decide
theorem q_ty_list_tuple : ((Ty.list == Ty.tuple) = false) := by decide
theorem q_ty_list_list : ((Ty.list == Ty.list) = true) := by decide
theorem q_ty_list_dict : ((Ty.list == Ty.dict) = false) := by decide
theorem q_ty_dict_int : ((Ty.dict == Ty.int) = false) := by decide
theorem q_ty_dict_str : ((Ty.dict == Ty.str) = false) := by decide
theorem q_ty_dict_bool : ((Ty.dict == Ty.bool) = false) := by decide
theorem q_ty_dict_tuple : ((Ty.dict == Ty.tuple) = false) := by decide
theorem q_ty_dict_list : ((Ty.dict == Ty.list) = false) := by decide
theorem q_ty_dict_dict : ((Ty.dict == Ty.dict) = true) := by decide
theorem q_kvs : wO (kvsO (some (.dct false kvs))) PK = PK kvs := id rfl
theorem q_fit0 : (fitn 0 = true) = True := by decide
theorem q_fit1 : (fitn 1 = true) = True := by decide
theorem q_fit2 : (fitn 2 = true) = True := by decide
theorem q_fit3 : (fitn 3 = true) = True := by decide
theorem q_fit4 : (fitn 4 = true) = True := by decide
theorem q_fit5 : (fitn 5 = true) = True := by decide
theorem q_fit6 : (fitn 6 = true) = True := by decide
theorem q_fit7 : (fitn 7 = true) = True := by decide
theorem q_fit8 : (fitn 8 = true) = True := by decide
theorem q_fit9 : (fitn 9 = true) = True := by decide
theorem q_fit10 : (fitn 10 = true) = True := by decide
theorem q_fit11 : (fitn 11 = true) = True := by decide
theorem q_fit12 : (fitn 12 = true) = True := by decide
theorem q_fit13 : (fitn 13 = true) = True := by decide
theorem q_fit14 : (fitn 14 = true) = True := by decide
theorem q_fit15 : (fitn 15 = true) = True := by decide
theorem q_fit16 : (fitn 16 = true) = True := by decide
theorem q_fit17 : (fitn 17 = true) = True := by decide
theorem q_fit18 : (fitn 18 = true) = True := by decide
theorem q_fit19 : (fitn 19 = true) = True := by decide
theorem q_fit20 : (fitn 20 = true) = True := by decide
theorem q_fit21 : (fitn 21 = true) = True := by decide
theorem q_fit22 : (fitn 22 = true) = True := by decide
theorem q_fit23 : (fitn 23 = true) = True := by decide
theorem q_fit24 : (fitn 24 = true) = True := by decide
theorem q_fit25 : (fitn 25 = true) = True := by decide
theorem q_fit26 : (fitn 26 = true) = True := by decide
theorem q_fit27 : (fitn 27 = true) = True := by decide
theorem q_fit28 : (fitn 28 = true) = True := by decide
theorem q_fit29 : (fitn 29 = true) = True := by decide
theorem q_fit30 : (fitn 30 = true) = True := by decide
theorem q_fit31 : (fitn 31 = true) = True := by decide
theorem q_fit32 : (fitn 32 = true) = True := by decide
theorem q_fit33 : (fitn 33 = true) = True := by decide
theorem q_fit34 : (fitn 34 = true) = True := by decide
theorem q_fit35 : (fitn 35 = true) = True := by decide
theorem q_fit36 : (fitn 36 = true) = True := by decide
theorem q_fit37 : (fitn 37 = true) = True := by decide
theorem q_fit38 : (fitn 38 = true) = True := by decide
theorem q_fit39 : (fitn 39 = true) = True := by decide
theorem q_fit40 : (fitn 40 = true) = True := by decide
theorem q_putIo : putIo ρ es io = cond (cleanE es) ρ (putIo2 ρ es io) := by
  cases h : cleanE es with
  | false => rfl
  | true => exact cleanE_of h
theorem q_cl_nil : cleanE .nil = true := id rfl
theorem q_cl_bor : cleanE (.cons (.bor i) es) = false := id rfl
theorem q_pio_nil : putIo2 ρ .nil io = ρ := by cases io <;> rfl
theorem q_pio_bor : putIo2 ρ (.cons (.bor i) es) (x :: io) = putIo (ρ.set i x) es io := id rfl
theorem q_cl_lockd : cleanE (.cons (.lockd i a) es0) = cleanE es0 := id rfl
theorem q_pio_lockd : putIo2 ρ (.cons (.lockd i a) es0) (x :: io) = putIo ρ es0 io := id rfl
theorem q_cl_sdf : cleanE (.cons (.sdf i a b) es0) = cleanE es0 := id rfl
theorem q_pio_sdf : putIo2 ρ (.cons (.sdf i a b) es0) (x :: io) = putIo ρ es0 io := id rfl
theorem q_cl_var : cleanE (.cons (.var i) es0) = cleanE es0 := id rfl
theorem q_pio_var : putIo2 ρ (.cons (.var i) es0) (x :: io) = putIo ρ es0 io := id rfl
theorem q_cl_non : cleanE (.cons .non es0) = cleanE es0 := id rfl
theorem q_pio_non : putIo2 ρ (.cons .non es0) (x :: io) = putIo ρ es0 io := id rfl
theorem q_cl_bl : cleanE (.cons (.bl b0) es0) = cleanE es0 := id rfl
theorem q_pio_bl : putIo2 ρ (.cons (.bl b0) es0) (x :: io) = putIo ρ es0 io := id rfl
theorem q_cl_int : cleanE (.cons (.int z) es0) = cleanE es0 := id rfl
theorem q_pio_int : putIo2 ρ (.cons (.int z) es0) (x :: io) = putIo ρ es0 io := id rfl
theorem q_cl_str : cleanE (.cons (.str s0) es0) = cleanE es0 := id rfl
theorem q_pio_str : putIo2 ρ (.cons (.str s0) es0) (x :: io) = putIo ρ es0 io := id rfl
theorem q_cl_nop : cleanE (.cons .nop es0) = cleanE es0 := id rfl
theorem q_pio_nop : putIo2 ρ (.cons .nop es0) (x :: io) = putIo ρ es0 io := id rfl
theorem q_cl_glo : cleanE (.cons (.glo g) es0) = cleanE es0 := id rfl
theorem q_pio_glo : putIo2 ρ (.cons (.glo g) es0) (x :: io) = putIo ρ es0 io := id rfl
theorem q_cl_tup : cleanE (.cons (.tup es) es0) = cleanE es0 := id rfl
theorem q_pio_tup : putIo2 ρ (.cons (.tup es) es0) (x :: io) = putIo ρ es0 io := id rfl
theorem q_cl_lst : cleanE (.cons (.lst es) es0) = cleanE es0 := id rfl
theorem q_pio_lst : putIo2 ρ (.cons (.lst es) es0) (x :: io) = putIo ρ es0 io := id rfl
theorem q_cl_dct : cleanE (.cons (.dct t0 ks vs) es0) = cleanE es0 := id rfl
theorem q_pio_dct : putIo2 ρ (.cons (.dct t0 ks vs) es0) (x :: io) = putIo ρ es0 io := id rfl
theorem q_cl_bin : cleanE (.cons (.bin o a b) es0) = cleanE es0 := id rfl
theorem q_pio_bin : putIo2 ρ (.cons (.bin o a b) es0) (x :: io) = putIo ρ es0 io := id rfl
theorem q_cl_neg : cleanE (.cons (.neg a) es0) = cleanE es0 := id rfl
theorem q_pio_neg : putIo2 ρ (.cons (.neg a) es0) (x :: io) = putIo ρ es0 io := id rfl
theorem q_cl_cmp : cleanE (.cons (.cmp co a b) es0) = cleanE es0 := id rfl
theorem q_pio_cmp : putIo2 ρ (.cons (.cmp co a b) es0) (x :: io) = putIo ρ es0 io := id rfl
theorem q_cl_chn : cleanE (.cons (.chn co co2 a b c) es0) = cleanE es0 := id rfl
theorem q_pio_chn : putIo2 ρ (.cons (.chn co co2 a b c) es0) (x :: io) = putIo ρ es0 io := id rfl
theorem q_cl_nt : cleanE (.cons (.nt a) es0) = cleanE es0 := id rfl
theorem q_pio_nt : putIo2 ρ (.cons (.nt a) es0) (x :: io) = putIo ρ es0 io := id rfl
theorem q_cl_an : cleanE (.cons (.an a b) es0) = cleanE es0 := id rfl
theorem q_pio_an : putIo2 ρ (.cons (.an a b) es0) (x :: io) = putIo ρ es0 io := id rfl
theorem q_cl_orr : cleanE (.cons (.orr a b) es0) = cleanE es0 := id rfl
theorem q_pio_orr : putIo2 ρ (.cons (.orr a b) es0) (x :: io) = putIo ρ es0 io := id rfl
theorem q_cl_ite : cleanE (.cons (.ite a b c) es0) = cleanE es0 := id rfl
theorem q_pio_ite : putIo2 ρ (.cons (.ite a b c) es0) (x :: io) = putIo ρ es0 io := id rfl
theorem q_cl_ix : cleanE (.cons (.ix a b) es0) = cleanE es0 := id rfl
theorem q_pio_ix : putIo2 ρ (.cons (.ix a b) es0) (x :: io) = putIo ρ es0 io := id rfl
theorem q_cl_sl : cleanE (.cons (.sl a b c) es0) = cleanE es0 := id rfl
theorem q_pio_sl : putIo2 ρ (.cons (.sl a b c) es0) (x :: io) = putIo ρ es0 io := id rfl
theorem q_cl_rev : cleanE (.cons (.rev a) es0) = cleanE es0 := id rfl
theorem q_pio_rev : putIo2 ρ (.cons (.rev a) es0) (x :: io) = putIo ρ es0 io := id rfl
theorem q_cl_cal : cleanE (.cons (.cal f es) es0) = cleanE es0 := id rfl
theorem q_pio_cal : putIo2 ρ (.cons (.cal f es) es0) (x :: io) = putIo ρ es0 io := id rfl
theorem q_cl_b1 : cleanE (.cons (.b1 k1 a) es0) = cleanE es0 := id rfl
theorem q_pio_b1 : putIo2 ρ (.cons (.b1 k1 a) es0) (x :: io) = putIo ρ es0 io := id rfl
theorem q_cl_b2 : cleanE (.cons (.b2 k2 a b) es0) = cleanE es0 := id rfl
theorem q_pio_b2 : putIo2 ρ (.cons (.b2 k2 a b) es0) (x :: io) = putIo ρ es0 io := id rfl
theorem q_cl_isi : cleanE (.cons (.isi a ty) es0) = cleanE es0 := id rfl
theorem q_pio_isi : putIo2 ρ (.cons (.isi a ty) es0) (x :: io) = putIo ρ es0 io := id rfl
theorem q_cl_m0 : cleanE (.cons (.m0 mt a) es0) = cleanE es0 := id rfl
theorem q_pio_m0 : putIo2 ρ (.cons (.m0 mt a) es0) (x :: io) = putIo ρ es0 io := id rfl
theorem q_cl_m1 : cleanE (.cons (.m1 mt a b) es0) = cleanE es0 := id rfl
theorem q_pio_m1 : putIo2 ρ (.cons (.m1 mt a b) es0) (x :: io) = putIo ρ es0 io := id rfl
theorem q_cl_m2 : cleanE (.cons (.m2 mt a b c) es0) = cleanE es0 := id rfl
theorem q_pio_m2 : putIo2 ρ (.cons (.m2 mt a b c) es0) (x :: io) = putIo ρ es0 io := id rfl
theorem q_cl_mm0 : cleanE (.cons (.mm0 mm i) es0) = cleanE es0 := id rfl
theorem q_pio_mm0 : putIo2 ρ (.cons (.mm0 mm i) es0) (x :: io) = putIo ρ es0 io := id rfl
theorem q_cl_mm1 : cleanE (.cons (.mm1 mm i a) es0) = cleanE es0 := id rfl
theorem q_pio_mm1 : putIo2 ρ (.cons (.mm1 mm i a) es0) (x :: io) = putIo ρ es0 io := id rfl
theorem q_cl_cmpr : cleanE (.cons (.cmpr a tg own it b) es0) = cleanE es0 := id rfl
theorem q_pio_cmpr : putIo2 ρ (.cons (.cmpr a tg own it b) es0) (x :: io) = putIo ρ es0 io := id rfl
theorem q_cl_gin : cleanE (.cons (.gin g b0 a) es0) = cleanE es0 := id rfl
theorem q_pio_gin : putIo2 ρ (.cons (.gin g b0 a) es0) (x :: io) = putIo ρ es0 io := id rfl
theorem q_cl_gget : cleanE (.cons (.gget g a) es0) = cleanE es0 := id rfl
theorem q_pio_gget : putIo2 ρ (.cons (.gget g a) es0) (x :: io) = putIo ρ es0 io := id rfl
end
end PD
end

section
set_option Elab.async false
set_option linter.all false
set_option maxRecDepth 100000
set_option maxHeartbeats 1000000
namespace PD
open PySem PySem.Spec PyProof.Rows L2
local macro_rules | `(tactic| walk_at "ev") => `(tactic| simp only [↓wE_var, ↓wE_bor, ↓wE_non, ↓wE_nop, ↓wE_bl, ↓wE_int, ↓wE_str, ↓wE_glo, ↓wE_tup, ↓wE_lst, ↓wE_dct, ↓wE_bin, ↓wE_neg, ↓wE_cmp, ↓wE_chn, ↓wE_nt, ↓wE_an, ↓wE_orr, ↓wE_ite, ↓wE_ix, ↓wE_sl, ↓wE_rev, ↓wE_cal, ↓wE_b1, ↓wE_b2, ↓wE_isi, ↓wE_m0, ↓wE_m1, ↓wE_mm0, ↓wE_mm1, ↓wE_cmpr, ↓wE_gin, ↓wE_gget, ↓wEs_nil, ↓wEs_cons, ↓wI_ex, ↓wI_rng1, ↓wI_rng2, ↓wI_zip, ↓wI_enum, ↓wS_asg, ↓wS_own, ↓wS_par, ↓wS_setix, ↓wS_expr, ↓wS_ite, ↓wS_whl, ↓wS_fr, ↓wS_ret, ↓wS_retN, ↓wS_retO, ↓wS_pass, ↓wS_brk, ↓wS_cnt, ↓wSs_nil, ↓wSs_cons, ↓q_fx_var, ↓q_fx_non, ↓q_fx_bl, ↓q_fx_int, ↓q_fx_str, ↓q_fx_nop, ↓q_fx_glo, ↓q_fx_tup, ↓q_fx_lst, ↓q_fx_dct, ↓q_fx_bin, ↓q_fx_neg, ↓q_fx_cmp, ↓q_fx_chn, ↓q_fx_nt, ↓q_fx_an, ↓q_fx_orr, ↓q_fx_ite, ↓q_fx_ix, ↓q_fx_sl, ↓q_fx_rev, ↓q_fx_cal, ↓q_fx_b1, ↓q_fx_b2, ↓q_fx_isi, ↓q_fx_m0, ↓q_fx_m1, ↓q_fx_m2, ↓q_fx_mm0, ↓q_fx_mm1, ↓q_fx_cmpr, ↓q_fx_gin, ↓q_fx_gget, ↓q_fx_bor, ↓q_fxs_nil, ↓q_fxs_cons, ↓q_lk_z, ↓q_lk_s, ↓q_wO_s, ↓q_ixO_nop, ↓q_ixO_var, ↓q_ixO_non, ↓q_ixO_bl, ↓q_ixO_int, ↓q_ixO_str, ↓q_ixO_glo, ↓q_ixO_tup, ↓q_ixO_lst, ↓q_ixO_dct, ↓q_ixO_bin, ↓q_ixO_neg, ↓q_ixO_cmp, ↓q_ixO_chn, ↓q_ixO_nt, ↓q_ixO_an, ↓q_ixO_orr, ↓q_ixO_ite, ↓q_ixO_ix, ↓q_ixO_sl, ↓q_ixO_rev, ↓q_ixO_cal, ↓q_ixO_b1, ↓q_ixO_b2, ↓q_ixO_isi, ↓q_ixO_m0, ↓q_ixO_m1, ↓q_ixO_m2, ↓q_ixO_mm0, ↓q_ixO_mm1, ↓q_ixO_cmpr, ↓q_ixO_gin, ↓q_ixO_gget, ↓q_asgT_nm, ↓q_asgT_tp, ↓q_setAll_nil, ↓q_setAll_cons, ↓q_wT_non, ↓q_wT_bl, ↓q_wT_int, ↓q_wT_tup, ↓q_wT_lst, ↓q_wT_str, ↓q_wB_bl, ↓q_wInt_int, ↓q_bin_add, ↓q_bin_sub, ↓q_bin_mul, ↓q_bin_mod, ↓q_bin_fdiv, ↓q_bin_pow, ↓q_bin_adds, ↓q_bin_addt, ↓q_bin_addl, ↓q_neg_int, ↓q_cmp_lt, ↓q_cmp_le, ↓q_cmp_gt, ↓q_cmp_ge, ↓q_cmp_eq, ↓q_cmp_ne, ↓q_cmp_in, ↓q_cmp_nin, ↓q_cmp_is, ↓q_cmp_isn, ↓q_eq_int, ↓q_eq_str, ↓q_eq_tupn, ↓q_eq_ntup, ↓q_eq_lstn, ↓q_in_str, ↓q_ix_lst, ↓q_ix_tup, ↓q_ix_scr, ↓q_ix_str, ↓q_sl_tup, ↓q_sl_lst, ↓q_sl_scr, ↓q_sl_str, ↓q_rev_tup, ↓q_rev_lst, ↓q_rev_str, ↓q_len_lst, ↓q_len_tup, ↓q_len_scr, ↓q_len_str, ↓q_abs_int, ↓q_int_int, ↓q_int_bl, ↓q_str_int, ↓q_all_lst, ↓q_any_lst, ↓q_tup_lst, ↓q_tup_tup, ↓q_lst_tup, ↓q_lst_lst, ↓q_rep_any, ↓q_max_two, ↓q_min_two, ↓q_up_str, ↓q_split_str, ↓q_join_str, ↓q_strip_str, ↓q_index_lst, ↓q_app_lst, ↓q_ext_lst, ↓q_pop_lst, ↓q_ty_list, ↓q_ty_str, ↓q_ty_str2, ↓q_ty_str3, ↓q_ty_idx, ↓q_set_lst, ↓q_strO_str, ↓q_it_tup, ↓q_it_lst, ↓q_it_scr, ↓q_it_str, ↓q_zip_st, ↓q_zip_ll, ↓q_zip_tt, ↓q_enum_l, ↓q_enum_t, ↓q_isi_non, ↓q_isi_bl, ↓q_isi_int, ↓q_isi_str, ↓q_isi_tup, ↓q_isi_lst, ↓q_isi_dct, ↓q_at0, ↓q_at1, ↓q_at2, ↓q_at3, ↓q_ixn0, ↓q_ixn1, ↓q_ixn2, ↓q_ixn3, ↓q_ixn4, ↓q_ixn5, ↓q_ixn6, ↓q_ixn7, ↓q_lkn, ↓q_lkn0, ↓q_lk0, ↓q_lkS, ↓q_wipe_nil, ↓q_wipe_cons, ↓q_back_nil, ↓q_back_cons, ↓q_ty_int_int, ↓q_ty_int_str, ↓q_ty_int_bool, ↓q_ty_int_tuple, ↓q_ty_int_list, ↓q_ty_int_dict, ↓q_ty_str_int, ↓q_ty_str_str, ↓q_ty_str_bool, ↓q_ty_str_tuple, ↓q_ty_str_list, ↓q_ty_str_dict, ↓q_ty_bool_int, ↓q_ty_bool_str, ↓q_ty_bool_bool, ↓q_ty_bool_tuple, ↓q_ty_bool_list, ↓q_ty_bool_dict, ↓q_ty_tuple_int, ↓q_ty_tuple_str, ↓q_ty_tuple_bool, ↓q_ty_tuple_tuple, ↓q_ty_tuple_list, ↓q_ty_tuple_dict, ↓q_ty_list_int, ↓q_ty_list_str, ↓q_ty_list_bool, ↓q_ty_list_tuple, ↓q_ty_list_list, ↓q_ty_list_dict, ↓q_ty_dict_int, ↓q_ty_dict_str, ↓q_ty_dict_bool, ↓q_ty_dict_tuple, ↓q_ty_dict_list, ↓q_ty_dict_dict, ↓q_kvs, ↓q_putIo, ↓q_cl_nil, ↓q_cl_bor, ↓q_pio_nil, ↓q_pio_bor, ↓q_cl_var, ↓q_pio_var, ↓q_cl_non, ↓q_pio_non, ↓q_cl_bl, ↓q_pio_bl, ↓q_cl_int, ↓q_pio_int, ↓q_cl_str, ↓q_pio_str, ↓q_cl_nop, ↓q_pio_nop, ↓q_cl_glo, ↓q_pio_glo, ↓q_cl_tup, ↓q_pio_tup, ↓q_cl_lst, ↓q_pio_lst, ↓q_cl_dct, ↓q_pio_dct, ↓q_cl_bin, ↓q_pio_bin, ↓q_cl_neg, ↓q_pio_neg, ↓q_cl_cmp, ↓q_pio_cmp, ↓q_cl_chn, ↓q_pio_chn, ↓q_cl_nt, ↓q_pio_nt, ↓q_cl_an, ↓q_pio_an, ↓q_cl_orr, ↓q_pio_orr, ↓q_cl_ite, ↓q_pio_ite, ↓q_cl_ix, ↓q_pio_ix, ↓q_cl_sl, ↓q_pio_sl, ↓q_cl_rev, ↓q_pio_rev, ↓q_cl_cal, ↓q_pio_cal, ↓q_cl_b1, ↓q_pio_b1, ↓q_cl_b2, ↓q_pio_b2, ↓q_cl_isi, ↓q_pio_isi, ↓q_cl_m0, ↓q_pio_m0, ↓q_cl_m1, ↓q_pio_m1, ↓q_cl_m2, ↓q_pio_m2, ↓q_cl_mm0, ↓q_pio_mm0, ↓q_cl_mm1, ↓q_pio_mm1, ↓q_cl_cmpr, ↓q_pio_cmpr, ↓q_cl_gin, ↓q_pio_gin, ↓q_cl_gget, ↓q_pio_gget, q_fx_var, q_fx_non, q_fx_bl, q_fx_int, q_fx_str, q_fx_nop, q_fx_glo, q_fx_tup, q_fx_lst, q_fx_dct, q_fx_bin, q_fx_neg, q_fx_cmp, q_fx_chn, q_fx_nt, q_fx_an, q_fx_orr, q_fx_ite, q_fx_ix, q_fx_sl, q_fx_rev, q_fx_cal, q_fx_b1, q_fx_b2, q_fx_isi, q_fx_m0, q_fx_m1, q_fx_m2, q_fx_mm0, q_fx_mm1, q_fx_cmpr, q_fx_gin, q_fx_gget, q_fx_bor, q_fxs_nil, q_fxs_cons, q_lk_z, q_lk_s, q_wO_s, q_ixO_nop, q_ixO_var, q_ixO_non, q_ixO_bl, q_ixO_int, q_ixO_str, q_ixO_glo, q_ixO_tup, q_ixO_lst, q_ixO_dct, q_ixO_bin, q_ixO_neg, q_ixO_cmp, q_ixO_chn, q_ixO_nt, q_ixO_an, q_ixO_orr, q_ixO_ite, q_ixO_ix, q_ixO_sl, q_ixO_rev, q_ixO_cal, q_ixO_b1, q_ixO_b2, q_ixO_isi, q_ixO_m0, q_ixO_m1, q_ixO_m2, q_ixO_mm0, q_ixO_mm1, q_ixO_cmpr, q_ixO_gin, q_ixO_gget, q_asgT_nm, q_asgT_tp, q_setAll_nil, q_setAll_cons, q_wT_non, q_wT_bl, q_wT_int, q_wT_tup, q_wT_lst, q_wT_str, q_wB_bl, q_wInt_int, q_bin_add, q_bin_sub, q_bin_mul, q_bin_mod, q_bin_fdiv, q_bin_pow, q_bin_adds, q_bin_addt, q_bin_addl, q_neg_int, q_cmp_lt, q_cmp_le, q_cmp_gt, q_cmp_ge, q_cmp_eq, q_cmp_ne, q_cmp_in, q_cmp_nin, q_cmp_is, q_cmp_isn, q_eq_int, q_eq_str, q_eq_tupn, q_eq_ntup, q_eq_lstn, q_in_str, q_ix_lst, q_ix_tup, q_ix_scr, q_ix_str, q_sl_tup, q_sl_lst, q_sl_scr, q_sl_str, q_rev_tup, q_rev_lst, q_rev_str, q_len_lst, q_len_tup, q_len_scr, q_len_str, q_abs_int, q_int_int, q_int_bl, q_str_int, q_all_lst, q_any_lst, q_tup_lst, q_tup_tup, q_lst_tup, q_lst_lst, q_rep_any, q_max_two, q_min_two, q_up_str, q_split_str, q_join_str, q_strip_str, q_index_lst, q_app_lst, q_ext_lst, q_pop_lst, q_ty_list, q_ty_str, q_ty_str2, q_ty_str3, q_ty_idx, q_set_lst, q_strO_str, q_it_tup, q_it_lst, q_it_scr, q_it_str, q_zip_st, q_zip_ll, q_zip_tt, q_enum_l, q_enum_t, q_isi_non, q_isi_bl, q_isi_int, q_isi_str, q_isi_tup, q_isi_lst, q_isi_dct, q_at0, q_at1, q_at2, q_at3, q_ixn0, q_ixn1, q_ixn2, q_ixn3, q_ixn4, q_ixn5, q_ixn6, q_ixn7, q_lkn, q_lkn0, q_lk0, q_lkS, q_wipe_nil, q_wipe_cons, q_back_nil, q_back_cons, q_ty_int_int, q_ty_int_str, q_ty_int_bool, q_ty_int_tuple, q_ty_int_list, q_ty_int_dict, q_ty_str_int, q_ty_str_str, q_ty_str_bool, q_ty_str_tuple, q_ty_str_list, q_ty_str_dict, q_ty_bool_int, q_ty_bool_str, q_ty_bool_bool, q_ty_bool_tuple, q_ty_bool_list, q_ty_bool_dict, q_ty_tuple_int, q_ty_tuple_str, q_ty_tuple_bool, q_ty_tuple_tuple, q_ty_tuple_list, q_ty_tuple_dict, q_ty_list_int, q_ty_list_str, q_ty_list_bool, q_ty_list_tuple, q_ty_list_list, q_ty_list_dict, q_ty_dict_int, q_ty_dict_str, q_ty_dict_bool, q_ty_dict_tuple, q_ty_dict_list, q_ty_dict_dict, q_kvs, q_putIo, q_cl_nil, q_cl_bor, q_pio_nil, q_pio_bor, q_cl_var, q_pio_var, q_cl_non, q_pio_non, q_cl_bl, q_pio_bl, q_cl_int, q_pio_int, q_cl_str, q_pio_str, q_cl_nop, q_pio_nop, q_cl_glo, q_pio_glo, q_cl_tup, q_pio_tup, q_cl_lst, q_pio_lst, q_cl_dct, q_pio_dct, q_cl_bin, q_pio_bin, q_cl_neg, q_pio_neg, q_cl_cmp, q_pio_cmp, q_cl_chn, q_pio_chn, q_cl_nt, q_pio_nt, q_cl_an, q_pio_an, q_cl_orr, q_pio_orr, q_cl_ite, q_pio_ite, q_cl_ix, q_pio_ix, q_cl_sl, q_pio_sl, q_cl_rev, q_pio_rev, q_cl_cal, q_pio_cal, q_cl_b1, q_pio_b1, q_cl_b2, q_pio_b2, q_cl_isi, q_pio_isi, q_cl_m0, q_pio_m0, q_cl_m1, q_pio_m1, q_cl_m2, q_pio_m2, q_cl_mm0, q_pio_mm0, q_cl_mm1, q_pio_mm1, q_cl_cmpr, q_pio_cmpr, q_cl_gin, q_pio_gin, q_cl_gget, q_pio_gget, List.set_cons_zero, List.set_cons_succ, List.length_cons, List.length_nil, List.map_cons, List.map_nil, List.replicate_succ, List.replicate_zero, List.cons_append, List.nil_append, List.take_succ_cons, List.take_zero, true_and, and_true, Bool.not_true, Bool.not_false, if_true, Bool.false_eq_true, if_false, cond_true, cond_false, Option.isNone_some, Bool.or_true, Bool.true_or, Bool.or_false, Bool.false_or, Bool.and_true, Bool.true_and, Bool.and_false, Bool.false_and, Nat.reduceAdd, Nat.reduceSub, Nat.reduceLT, Nat.reduceLeDiff, Nat.zero_add, Int.reduceLT, Int.reduceLE, reduceCtorEq, decide_eq_true_eq, Nat.lt_add_one, Nat.zero_lt_succ, *])
/-! QC: what the laws' own helpers do -/
section
variable {G : List D} {fns : List Fn} {wf n f : Nat} {Q : D → PD.Env → Prop} {X : XQ} {dk : D}
def IsDeck (d : D) : Prop := ∃ g m c : Int, d = .lst [.int g, .int m, .int c] ∧ 0 ≤ m ∧ m < 2305843009213693951 ∧ 0 ≤ c
/-- _law_draw -/
def drawFn (c : Int) : Fn := ⟨2, 4, [true, false, false, false], false,
      (.cons (.ite (.cmp .gt (.ix (.bor 0) (.int 0)) (.int 0))
      (.cons (.asg (.nm 3) (.bin .mod (.b1 .int (.ix (.bor 0) (.int 0))) (.var 1)))
      (.cons (.setix 0 (.int 0) (.bin .fdiv (.ix (.bor 0) (.int 0)) (.var 1)))
      (.cons (.ret (.var 3))
      .nil)))
      .nil)
      (.cons (.setix 0 (.int 2) (.bin .add (.ix (.bor 0) (.int 2)) (.int 1)))
      (.cons (.asg (.nm 2) (.bin .mod (.b1 .int (.bin .add (.ix (.bor 0) (.int 1)) (.bin .mul (.int 11400714819323198485) (.ix (.bor 0) (.int 2))))) (.int 18446744073709551557)))
      (.cons (.asg (.nm 2) (.bin .mod (.b1 .int (.bin .mul (.var 2) (.bin .add (.bin .mod (.var 2) (.int 4294967291)) (.int c)))) (.int 2305843009213693951)))
      (.cons (.ret (.bin .mod (.bin .fdiv (.bin .mod (.b1 .int (.bin .mul (.var 2) (.var 2))) (.int 2305843009213693921)) (.int 2048)) (.var 1)))
      .nil)))))⟩
theorem mulOk_l {a b : Int} (h1 : -(2 ^ 64) < a) (h2 : a < 2 ^ 64) : mulOk a b = true := by
  unfold mulOk
  rw [decide_eq_true h1, decide_eq_true h2]; rfl
theorem mulOk_r {a b : Int} (h1 : -(2 ^ 64) < b) (h2 : b < 2 ^ 64) : mulOk a b = true := by
  unfold mulOk
  rw [decide_eq_true h1, decide_eq_true h2]
  simp
theorem log_lt {m : Int} (h1 : 0 ≤ m) (h2 : m < 2 ^ 64) : m.natAbs.log2 < 9000 := by
  have : m.natAbs < 2 ^ 64 := by omega
  by_cases z : m.natAbs = 0
  · rw [z]; decide
  · exact Nat.lt_trans ((Nat.log2_lt z).mpr this) (by decide)
theorem draw_w {c : Int} (hF : fns[f]? = some (drawFn c)) (hn : 1 ≤ n) (h : IsDeck dk) {m : Int} (hm : 1 ≤ m) (hm2 : m < 2 ^ 64)
    (k : ∀ (x : Int) (dk' : D), IsDeck dk' → 0 ≤ x → x < m → Q (.int x) [some dk', some (.int m)]) : wC (callF G fns wf n f [dk, .int m]) Q X := by
  obtain ⟨g, a, c0, rfl, h1, h2, h3⟩ := h
  refine wC_callF hF hn rfl ?_
  unfold drawFn
  walk_at "ev"
  split
  · rename_i hg
    have q1 := Int.emod_nonneg g (show m ≠ 0 by omega)
    have q2 := Int.emod_lt_of_pos g (show 0 < m by omega)
    exact ⟨by omega, ⟨by omega, log_lt (by omega) hm2⟩, k _ _ ⟨_, _, _, rfl, h1, h2, h3⟩ q1 q2⟩
  · generalize e1 : (a + 11400714819323198485 * (c0 + 1)) % 18446744073709551557 = u
    have u1 : 0 ≤ u := by omega
    have u2 : u < 18446744073709551557 := by omega
    generalize e2 : u * (u % 4294967291 + c) % 2305843009213693951 = v
    have v1 : 0 ≤ v := by rw [← e2]; exact Int.emod_nonneg _ (by decide)
    have v2 : v < 2305843009213693951 := by rw [← e2]; exact Int.emod_lt_of_pos _ (by decide)
    generalize e3 : v * v % 2305843009213693921 / 2048 = y
    have q1 := Int.emod_nonneg y (show m ≠ 0 by omega)
    have q2 := Int.emod_lt_of_pos y (show 0 < m by omega)
    refine ⟨mulOk_l (by decide) (by decide), mulOk_l (by omega) (by omega), mulOk_l (by omega) (by omega), by decide, by omega, k _ _ ⟨_, _, _, rfl, h1, h2, by omega⟩ q1 q2⟩
/-- _law_deck -/
def deckFn (c0 c1 c2 c3 c4 : Int) : Fn := ⟨1, 5, [false, false, false, false, false], true,
      (.cons (.par [1, 2] (.cons (.int 0) (.cons (.bin .add (.int c0) (.bin .mul (.int c1) (.b1 .len (.var 0)))) .nil)))
      (.cons (.fr (.nm 3) (.ex (.sl (.var 0) .nop (.int 60)))
      (.cons (.asg (.nm 4) (.bin .add (.bin .add (.bin .mul (.int 2) (.b1 .abs (.var 3))) (.b1 .int (.cmp .lt (.var 3) (.int 0)))) (.int c2)))
      (.cons (.asg (.nm 2) (.bin .mod (.b1 .int (.bin .add (.bin .mul (.var 2) (.int c3)) (.var 4))) (.int 2305843009213693951)))
      (.cons (.ite (.cmp .ge (.b1 .abs (.var 3)) (.bin .pow (.int 10) (.int 18)))
      (.cons (.asg (.nm 1) (.bin .add (.bin .mul (.var 1) (.int c4)) (.b1 .abs (.var 3))))
      .nil)
      .nil)
      .nil))))
      (.cons (.ret (.lst (.cons (.var 1) (.cons (.var 2) (.cons (.int 0) .nil)))))
      .nil)))⟩
theorem sm3 : fitn 3 = true := by decide
theorem deck_w {ns : List Int} {c0 c1 c2 c3 c4 : Int} (hF : fns[f]? = some (deckFn c0 c1 c2 c3 c4)) (hn : 1 ≤ n) (hc0 : 0 ≤ c0 ∧ c0 < 2 ^ 30) (hc1 : 0 ≤ c1 ∧ c1 < 2 ^ 20) (hc3 : 0 ≤ c3 ∧ c3 < 2 ^ 64) (hc4 : 0 ≤ c4 ∧ c4 < 2 ^ 64) (hl : ns.length ≤ 63)
    (k : ∀ dk io, IsDeck dk → Q dk io) : wC (callF G fns wf n f [.scr ns]) Q X := by
  refine wC_callF hF hn rfl ?_
  unfold deckFn
  walk_at "ev"
  have hml : 0 ≤ c1 * (ns.length : Int) ∧ c1 * (ns.length : Int) ≤ 2 ^ 20 * 63 := by
    refine ⟨Int.mul_nonneg hc1.1 (by omega), Int.mul_le_mul (by omega) (by omega) (by omega) (by decide)⟩
  refine ⟨mulOk_l (by omega) (by omega), ?_⟩
  refine wF_inv (fun _ ρ => ∃ (g m : Int) (x y : Option D), ρ = [some (.scr ns), some (.int g), some (.int m), x, y] ∧ 0 ≤ m ∧ m < 2305843009213693951) ⟨_, _, _, _, rfl, by omega, by omega⟩ ?_ ?_
  · rintro i d ρ hd ⟨g, m, x, y, rfl, h1, h2⟩
    obtain ⟨z, rfl⟩ : ∃ z, d = .int z := by
      have m1 := List.mem_of_getElem? hd
      unfold cutD at m1
      obtain ⟨z, _, e⟩ := List.mem_map.mp (List.mem_of_mem_drop (List.mem_of_mem_take m1))
      exact ⟨z, e.symm⟩
    walk_at "ev"
    generalize (if z < 0 then -z else z) = az
    generalize (2 * az + (if z < 0 then 1 else 0) + c2) = bz
    have q1 := Int.emod_nonneg (m * c3 + bz) (show (2305843009213693951 : Int) ≠ 0 by decide)
    have q2 := Int.emod_lt_of_pos (m * c3 + bz) (show (0 : Int) < 2305843009213693951 by decide)
    refine ⟨mulOk_l (by decide) (by decide), mulOk_l (by omega) (by omega), by decide, ?_⟩
    split
    · exact ⟨mulOk_r (by omega) (by omega), _, _, _, _, rfl, q1, q2⟩
    · exact ⟨_, _, _, _, rfl, q1, q2⟩
  · rintro ρ ⟨g, m, x, y, rfl, h1, h2⟩
    walk_at "ev"
    exact ⟨sm3, k _ _ ⟨_, _, _, rfl, h1, h2, by decide⟩⟩
/-- _law_pick -/
def pickFn (i : Nat) : Fn := ⟨2, 2, [true, false], false,
      (.cons (.ret (.ix (.var 1) (.cal i (.cons (.bor 0) (.cons (.b1 .len (.var 1)) .nil)))))
      .nil)⟩
theorem atI_in {α : Type} {xs : List α} {x : Int} (h0 : 0 ≤ x) (h1 : x < xs.length) : ∃ y, y ∈ xs ∧ atI xs x = some y := by
  unfold atI ixN
  rw [if_pos h0, if_pos h1]
  have : x.toNat < xs.length := by omega
  exact ⟨xs[x.toNat], List.getElem_mem _, by simp [this]⟩
theorem pick_lst {c : Int} {j : Nat} {xs : List D} (hF : fns[f]? = some (pickFn j)) (hD : fns[j]? = some (drawFn c)) (hn : 2 ≤ n) (h : IsDeck dk) (h1 : 1 ≤ xs.length) (h2 : xs.length < 2 ^ 62)
    (k : ∀ (x dk' : D), IsDeck dk' → x ∈ xs → Q x [some dk', some (.lst xs)]) : wC (callF G fns wf n f [dk, .lst xs]) Q X := by
  refine wC_callF hF (by omega) rfl ?_
  unfold pickFn
  walk_at "ev"
  refine draw_w hD (by omega) h (by omega) (by omega) fun x dk' hd x0 x1 => ?_
  walk_at "ev"
  obtain ⟨y, hy, e⟩ := atI_in x0 x1
  walk_at "ev"
  all_goals exact k _ _ hd hy
theorem pick_tup {c : Int} {j : Nat} {xs : List D} (hF : fns[f]? = some (pickFn j)) (hD : fns[j]? = some (drawFn c)) (hn : 2 ≤ n) (h : IsDeck dk) (h1 : 1 ≤ xs.length) (h2 : xs.length < 2 ^ 62)
    (k : ∀ (x dk' : D), IsDeck dk' → x ∈ xs → Q x [some dk', some (.tup xs)]) : wC (callF G fns wf n f [dk, .tup xs]) Q X := by
  refine wC_callF hF (by omega) rfl ?_
  unfold pickFn
  walk_at "ev"
  refine draw_w hD (by omega) h (by omega) (by omega) fun x dk' hd x0 x1 => ?_
  walk_at "ev"
  obtain ⟨y, hy, e⟩ := atI_in x0 x1
  walk_at "ev"
  all_goals exact k _ _ hd hy
theorem pick_str {c : Int} {j : Nat} {s : Str} (hF : fns[f]? = some (pickFn j)) (hD : fns[j]? = some (drawFn c)) (hn : 2 ≤ n) (h : IsDeck dk) (h1 : 1 ≤ s.cps.toList.length) (h2 : s.cps.toList.length ≤ sizeLine)
    (k : ∀ (x : Nat) (dk' : D), IsDeck dk' → x ∈ s.cps.toList → Q (.str ⟨#[x]⟩) [some dk', some (.str s)]) : wC (callF G fns wf n f [dk, .str s]) Q X := by
  have hl : s.length = s.cps.toList.length := by simp [PySem.Str.length]
  have hsz : sizeLine = 16777216 := rfl
  refine wC_callF hF (by omega) rfl ?_
  unfold pickFn
  have hf : fits s = true := by unfold fits; rw [hl]; exact decide_eq_true h2
  walk_at "ev"
  refine draw_w hD (by omega) h (by omega) (by omega) fun x dk' hd x0 x1 => ?_
  obtain ⟨y, hy, e⟩ := atI_in (xs := s.cps.toList) x0 (by omega)
  walk_at "ev"
  all_goals exact k _ _ hd hy
end
end PD
end

section
set_option Elab.async false
set_option linter.all false
set_option maxRecDepth 100000
set_option maxHeartbeats 1000000
namespace PD
open PySem PySem.Spec PyProof.Rows L2
local macro_rules | `(tactic| walk_at "ev") => `(tactic| simp only [↓wE_var, ↓wE_bor, ↓wE_non, ↓wE_nop, ↓wE_bl, ↓wE_int, ↓wE_str, ↓wE_glo, ↓wE_tup, ↓wE_lst, ↓wE_dct, ↓wE_bin, ↓wE_neg, ↓wE_cmp, ↓wE_chn, ↓wE_nt, ↓wE_an, ↓wE_orr, ↓wE_ite, ↓wE_ix, ↓wE_sl, ↓wE_rev, ↓wE_cal, ↓wE_b1, ↓wE_b2, ↓wE_isi, ↓wE_m0, ↓wE_m1, ↓wE_mm0, ↓wE_mm1, ↓wE_cmpr, ↓wE_gin, ↓wE_gget, ↓wEs_nil, ↓wEs_cons, ↓wI_ex, ↓wI_rng1, ↓wI_rng2, ↓wI_zip, ↓wI_enum, ↓wS_asg, ↓wS_own, ↓wS_par, ↓wS_setix, ↓wS_expr, ↓wS_ite, ↓wS_whl, ↓wS_fr, ↓wS_ret, ↓wS_retN, ↓wS_retO, ↓wS_pass, ↓wS_brk, ↓wS_cnt, ↓wSs_nil, ↓wSs_cons, ↓q_fx_var, ↓q_fx_non, ↓q_fx_bl, ↓q_fx_int, ↓q_fx_str, ↓q_fx_nop, ↓q_fx_glo, ↓q_fx_tup, ↓q_fx_lst, ↓q_fx_dct, ↓q_fx_bin, ↓q_fx_neg, ↓q_fx_cmp, ↓q_fx_chn, ↓q_fx_nt, ↓q_fx_an, ↓q_fx_orr, ↓q_fx_ite, ↓q_fx_ix, ↓q_fx_sl, ↓q_fx_rev, ↓q_fx_cal, ↓q_fx_b1, ↓q_fx_b2, ↓q_fx_isi, ↓q_fx_m0, ↓q_fx_m1, ↓q_fx_m2, ↓q_fx_mm0, ↓q_fx_mm1, ↓q_fx_cmpr, ↓q_fx_gin, ↓q_fx_gget, ↓q_fx_bor, ↓q_fxs_nil, ↓q_fxs_cons, ↓q_lk_z, ↓q_lk_s, ↓q_wO_s, ↓q_ixO_nop, ↓q_ixO_var, ↓q_ixO_non, ↓q_ixO_bl, ↓q_ixO_int, ↓q_ixO_str, ↓q_ixO_glo, ↓q_ixO_tup, ↓q_ixO_lst, ↓q_ixO_dct, ↓q_ixO_bin, ↓q_ixO_neg, ↓q_ixO_cmp, ↓q_ixO_chn, ↓q_ixO_nt, ↓q_ixO_an, ↓q_ixO_orr, ↓q_ixO_ite, ↓q_ixO_ix, ↓q_ixO_sl, ↓q_ixO_rev, ↓q_ixO_cal, ↓q_ixO_b1, ↓q_ixO_b2, ↓q_ixO_isi, ↓q_ixO_m0, ↓q_ixO_m1, ↓q_ixO_m2, ↓q_ixO_mm0, ↓q_ixO_mm1, ↓q_ixO_cmpr, ↓q_ixO_gin, ↓q_ixO_gget, ↓q_asgT_nm, ↓q_asgT_tp, ↓q_setAll_nil, ↓q_setAll_cons, ↓q_wT_non, ↓q_wT_bl, ↓q_wT_int, ↓q_wT_tup, ↓q_wT_lst, ↓q_wT_str, ↓q_wB_bl, ↓q_wInt_int, ↓q_bin_add, ↓q_bin_sub, ↓q_bin_mul, ↓q_bin_mod, ↓q_bin_fdiv, ↓q_bin_pow, ↓q_bin_adds, ↓q_bin_addt, ↓q_bin_addl, ↓q_neg_int, ↓q_cmp_lt, ↓q_cmp_le, ↓q_cmp_gt, ↓q_cmp_ge, ↓q_cmp_eq, ↓q_cmp_ne, ↓q_cmp_in, ↓q_cmp_nin, ↓q_cmp_is, ↓q_cmp_isn, ↓q_eq_int, ↓q_eq_str, ↓q_eq_tupn, ↓q_eq_ntup, ↓q_eq_lstn, ↓q_in_str, ↓q_ix_lst, ↓q_ix_tup, ↓q_ix_scr, ↓q_ix_str, ↓q_sl_tup, ↓q_sl_lst, ↓q_sl_scr, ↓q_sl_str, ↓q_rev_tup, ↓q_rev_lst, ↓q_rev_str, ↓q_len_lst, ↓q_len_tup, ↓q_len_scr, ↓q_len_str, ↓q_abs_int, ↓q_int_int, ↓q_int_bl, ↓q_str_int, ↓q_all_lst, ↓q_any_lst, ↓q_tup_lst, ↓q_tup_tup, ↓q_lst_tup, ↓q_lst_lst, ↓q_rep_any, ↓q_max_two, ↓q_min_two, ↓q_up_str, ↓q_split_str, ↓q_join_str, ↓q_strip_str, ↓q_index_lst, ↓q_app_lst, ↓q_ext_lst, ↓q_pop_lst, ↓q_ty_list, ↓q_ty_str, ↓q_ty_str2, ↓q_ty_str3, ↓q_ty_idx, ↓q_set_lst, ↓q_strO_str, ↓q_it_tup, ↓q_it_lst, ↓q_it_scr, ↓q_it_str, ↓q_zip_st, ↓q_zip_ll, ↓q_zip_tt, ↓q_enum_l, ↓q_enum_t, ↓q_isi_non, ↓q_isi_bl, ↓q_isi_int, ↓q_isi_str, ↓q_isi_tup, ↓q_isi_lst, ↓q_isi_dct, ↓q_at0, ↓q_at1, ↓q_at2, ↓q_at3, ↓q_ixn0, ↓q_ixn1, ↓q_ixn2, ↓q_ixn3, ↓q_ixn4, ↓q_ixn5, ↓q_ixn6, ↓q_ixn7, ↓q_lkn, ↓q_lkn0, ↓q_lk0, ↓q_lkS, ↓q_wipe_nil, ↓q_wipe_cons, ↓q_back_nil, ↓q_back_cons, ↓q_ty_int_int, ↓q_ty_int_str, ↓q_ty_int_bool, ↓q_ty_int_tuple, ↓q_ty_int_list, ↓q_ty_int_dict, ↓q_ty_str_int, ↓q_ty_str_str, ↓q_ty_str_bool, ↓q_ty_str_tuple, ↓q_ty_str_list, ↓q_ty_str_dict, ↓q_ty_bool_int, ↓q_ty_bool_str, ↓q_ty_bool_bool, ↓q_ty_bool_tuple, ↓q_ty_bool_list, ↓q_ty_bool_dict, ↓q_ty_tuple_int, ↓q_ty_tuple_str, ↓q_ty_tuple_bool, ↓q_ty_tuple_tuple, ↓q_ty_tuple_list, ↓q_ty_tuple_dict, ↓q_ty_list_int, ↓q_ty_list_str, ↓q_ty_list_bool, ↓q_ty_list_tuple, ↓q_ty_list_list, ↓q_ty_list_dict, ↓q_ty_dict_int, ↓q_ty_dict_str, ↓q_ty_dict_bool, ↓q_ty_dict_tuple, ↓q_ty_dict_list, ↓q_ty_dict_dict, ↓q_kvs, ↓q_putIo, ↓q_cl_nil, ↓q_cl_bor, ↓q_pio_nil, ↓q_pio_bor, ↓q_cl_var, ↓q_pio_var, ↓q_cl_non, ↓q_pio_non, ↓q_cl_bl, ↓q_pio_bl, ↓q_cl_int, ↓q_pio_int, ↓q_cl_str, ↓q_pio_str, ↓q_cl_nop, ↓q_pio_nop, ↓q_cl_glo, ↓q_pio_glo, ↓q_cl_tup, ↓q_pio_tup, ↓q_cl_lst, ↓q_pio_lst, ↓q_cl_dct, ↓q_pio_dct, ↓q_cl_bin, ↓q_pio_bin, ↓q_cl_neg, ↓q_pio_neg, ↓q_cl_cmp, ↓q_pio_cmp, ↓q_cl_chn, ↓q_pio_chn, ↓q_cl_nt, ↓q_pio_nt, ↓q_cl_an, ↓q_pio_an, ↓q_cl_orr, ↓q_pio_orr, ↓q_cl_ite, ↓q_pio_ite, ↓q_cl_ix, ↓q_pio_ix, ↓q_cl_sl, ↓q_pio_sl, ↓q_cl_rev, ↓q_pio_rev, ↓q_cl_cal, ↓q_pio_cal, ↓q_cl_b1, ↓q_pio_b1, ↓q_cl_b2, ↓q_pio_b2, ↓q_cl_isi, ↓q_pio_isi, ↓q_cl_m0, ↓q_pio_m0, ↓q_cl_m1, ↓q_pio_m1, ↓q_cl_m2, ↓q_pio_m2, ↓q_cl_mm0, ↓q_pio_mm0, ↓q_cl_mm1, ↓q_pio_mm1, ↓q_cl_cmpr, ↓q_pio_cmpr, ↓q_cl_gin, ↓q_pio_gin, ↓q_cl_gget, ↓q_pio_gget, q_fx_var, q_fx_non, q_fx_bl, q_fx_int, q_fx_str, q_fx_nop, q_fx_glo, q_fx_tup, q_fx_lst, q_fx_dct, q_fx_bin, q_fx_neg, q_fx_cmp, q_fx_chn, q_fx_nt, q_fx_an, q_fx_orr, q_fx_ite, q_fx_ix, q_fx_sl, q_fx_rev, q_fx_cal, q_fx_b1, q_fx_b2, q_fx_isi, q_fx_m0, q_fx_m1, q_fx_m2, q_fx_mm0, q_fx_mm1, q_fx_cmpr, q_fx_gin, q_fx_gget, q_fx_bor, q_fxs_nil, q_fxs_cons, q_lk_z, q_lk_s, q_wO_s, q_ixO_nop, q_ixO_var, q_ixO_non, q_ixO_bl, q_ixO_int, q_ixO_str, q_ixO_glo, q_ixO_tup, q_ixO_lst, q_ixO_dct, q_ixO_bin, q_ixO_neg, q_ixO_cmp, q_ixO_chn, q_ixO_nt, q_ixO_an, q_ixO_orr, q_ixO_ite, q_ixO_ix, q_ixO_sl, q_ixO_rev, q_ixO_cal, q_ixO_b1, q_ixO_b2, q_ixO_isi, q_ixO_m0, q_ixO_m1, q_ixO_m2, q_ixO_mm0, q_ixO_mm1, q_ixO_cmpr, q_ixO_gin, q_ixO_gget, q_asgT_nm, q_asgT_tp, q_setAll_nil, q_setAll_cons, q_wT_non, q_wT_bl, q_wT_int, q_wT_tup, q_wT_lst, q_wT_str, q_wB_bl, q_wInt_int, q_bin_add, q_bin_sub, q_bin_mul, q_bin_mod, q_bin_fdiv, q_bin_pow, q_bin_adds, q_bin_addt, q_bin_addl, q_neg_int, q_cmp_lt, q_cmp_le, q_cmp_gt, q_cmp_ge, q_cmp_eq, q_cmp_ne, q_cmp_in, q_cmp_nin, q_cmp_is, q_cmp_isn, q_eq_int, q_eq_str, q_eq_tupn, q_eq_ntup, q_eq_lstn, q_in_str, q_ix_lst, q_ix_tup, q_ix_scr, q_ix_str, q_sl_tup, q_sl_lst, q_sl_scr, q_sl_str, q_rev_tup, q_rev_lst, q_rev_str, q_len_lst, q_len_tup, q_len_scr, q_len_str, q_abs_int, q_int_int, q_int_bl, q_str_int, q_all_lst, q_any_lst, q_tup_lst, q_tup_tup, q_lst_tup, q_lst_lst, q_rep_any, q_max_two, q_min_two, q_up_str, q_split_str, q_join_str, q_strip_str, q_index_lst, q_app_lst, q_ext_lst, q_pop_lst, q_ty_list, q_ty_str, q_ty_str2, q_ty_str3, q_ty_idx, q_set_lst, q_strO_str, q_it_tup, q_it_lst, q_it_scr, q_it_str, q_zip_st, q_zip_ll, q_zip_tt, q_enum_l, q_enum_t, q_isi_non, q_isi_bl, q_isi_int, q_isi_str, q_isi_tup, q_isi_lst, q_isi_dct, q_at0, q_at1, q_at2, q_at3, q_ixn0, q_ixn1, q_ixn2, q_ixn3, q_ixn4, q_ixn5, q_ixn6, q_ixn7, q_lkn, q_lkn0, q_lk0, q_lkS, q_wipe_nil, q_wipe_cons, q_back_nil, q_back_cons, q_ty_int_int, q_ty_int_str, q_ty_int_bool, q_ty_int_tuple, q_ty_int_list, q_ty_int_dict, q_ty_str_int, q_ty_str_str, q_ty_str_bool, q_ty_str_tuple, q_ty_str_list, q_ty_str_dict, q_ty_bool_int, q_ty_bool_str, q_ty_bool_bool, q_ty_bool_tuple, q_ty_bool_list, q_ty_bool_dict, q_ty_tuple_int, q_ty_tuple_str, q_ty_tuple_bool, q_ty_tuple_tuple, q_ty_tuple_list, q_ty_tuple_dict, q_ty_list_int, q_ty_list_str, q_ty_list_bool, q_ty_list_tuple, q_ty_list_list, q_ty_list_dict, q_ty_dict_int, q_ty_dict_str, q_ty_dict_bool, q_ty_dict_tuple, q_ty_dict_list, q_ty_dict_dict, q_kvs, q_putIo, q_cl_nil, q_cl_bor, q_pio_nil, q_pio_bor, q_cl_var, q_pio_var, q_cl_non, q_pio_non, q_cl_bl, q_pio_bl, q_cl_int, q_pio_int, q_cl_str, q_pio_str, q_cl_nop, q_pio_nop, q_cl_glo, q_pio_glo, q_cl_tup, q_pio_tup, q_cl_lst, q_pio_lst, q_cl_dct, q_pio_dct, q_cl_bin, q_pio_bin, q_cl_neg, q_pio_neg, q_cl_cmp, q_pio_cmp, q_cl_chn, q_pio_chn, q_cl_nt, q_pio_nt, q_cl_an, q_pio_an, q_cl_orr, q_pio_orr, q_cl_ite, q_pio_ite, q_cl_ix, q_pio_ix, q_cl_sl, q_pio_sl, q_cl_rev, q_pio_rev, q_cl_cal, q_pio_cal, q_cl_b1, q_pio_b1, q_cl_b2, q_pio_b2, q_cl_isi, q_pio_isi, q_cl_m0, q_pio_m0, q_cl_m1, q_pio_m1, q_cl_m2, q_pio_m2, q_cl_mm0, q_pio_mm0, q_cl_mm1, q_pio_mm1, q_cl_cmpr, q_pio_cmpr, q_cl_gin, q_pio_gin, q_cl_gget, q_pio_gget, List.set_cons_zero, List.set_cons_succ, List.length_cons, List.length_nil, List.map_cons, List.map_nil, List.replicate_succ, List.replicate_zero, List.cons_append, List.nil_append, List.take_succ_cons, List.take_zero, true_and, and_true, Bool.not_true, Bool.not_false, if_true, Bool.false_eq_true, if_false, cond_true, cond_false, Option.isNone_some, Bool.or_true, Bool.true_or, Bool.or_false, Bool.false_or, Bool.and_true, Bool.true_and, Bool.and_false, Bool.false_and, Nat.reduceAdd, Nat.reduceSub, Nat.reduceLT, Nat.reduceLeDiff, Nat.zero_add, Int.reduceLT, Int.reduceLE, reduceCtorEq, decide_eq_true_eq, Nat.lt_add_one, Nat.zero_lt_succ, *])
/-! QV: how large data is; repr -/
mutual
/-- a bound of what is shown -/
def wt : D → Nat
  | .non => 4
  | .bl _ => 5
  | .int i => i.natAbs.log2 + 3
  | .str s => s.length + 2
  | .tup xs => wtL xs + 3
  | .lst xs => wtL xs + 3
  | .dct _ kvs => wtK kvs + 3
  | .fz _ => 1
  | .scr _ => 1
  | .obj _ _ => 1
def wtL : List D → Nat
  | [] => 0
  | x :: xs => wt x + 2 + wtL xs
def wtK : List (D × D) → Nat
  | [] => 0
  | (k, v) :: r => wt k + wt v + 4 + wtK r
end
def ascS (s : Str) : Bool := s.cps.toList.all fun c => decide (c < 128)
mutual
/-- all texts within are ASCII -/
def asc : D → Bool
  | .str s => ascS s
  | .tup xs => ascL xs
  | .lst xs => ascL xs
  | .dct _ kvs => ascK kvs
  | _ => true
def ascL : List D → Bool
  | [] => true
  | x :: xs => asc x && ascL xs
def ascK : List (D × D) → Bool
  | [] => true
  | (k, v) :: r => (match k with | .str s => ascS s | _ => false) && asc v && ascK r
end
theorem wtL_append : ∀ xs ys : List D, wtL (xs ++ ys) = wtL xs + wtL ys
  | [], _ => by simp [wtL]
  | x :: xs, ys => by rw [List.cons_append, wtL, wtL, wtL_append xs ys]; omega
theorem ascL_append : ∀ xs ys : List D, ascL (xs ++ ys) = (ascL xs && ascL ys)
  | [], _ => by simp [ascL]
  | x :: xs, ys => by rw [List.cons_append, ascL, ascL, ascL_append xs ys, Bool.and_assoc]
theorem plnL_append (n : Nat) : ∀ xs ys : List D, plnL n (xs ++ ys) = (plnL n xs && plnL n ys)
  | [], _ => by simp [plnL]
  | x :: xs, ys => by rw [List.cons_append, plnL, plnL, plnL_append n xs ys, Bool.and_assoc]
theorem wtL_mem {x : D} : ∀ {xs : List D}, x ∈ xs → wt x + 2 ≤ wtL xs
  | y :: ys, h => by
    rw [wtL]
    rcases List.mem_cons.mp h with e | e
    · subst e; omega
    · have := wtL_mem e; omega
theorem ascL_mem {x : D} : ∀ {xs : List D}, ascL xs = true → x ∈ xs → asc x = true
  | y :: ys, p, h => by
    rw [ascL, Bool.and_eq_true] at p
    rcases List.mem_cons.mp h with e | e
    · subst e; exact p.1
    · exact ascL_mem p.2 e
theorem plnL_mem {n : Nat} {x : D} : ∀ {xs : List D}, plnL n xs = true → x ∈ xs → pln n x = true
  | y :: ys, p, h => by
    rw [plnL, Bool.and_eq_true] at p
    rcases List.mem_cons.mp h with e | e
    · subst e; exact p.1
    · exact plnL_mem p.2 e
theorem plnL_all {n : Nat} : ∀ {xs : List D}, (∀ x ∈ xs, pln n x = true) → plnL n xs = true
  | [], _ => by simp [plnL]
  | y :: ys, h => by rw [plnL, h y (List.mem_cons_self ..), plnL_all fun x hx => h x (List.mem_cons_of_mem _ hx)]; rfl
theorem ascL_all : ∀ {xs : List D}, (∀ x ∈ xs, asc x = true) → ascL xs = true
  | [], _ => rfl
  | y :: ys, h => by rw [ascL, h y (List.mem_cons_self ..), ascL_all fun x hx => h x (List.mem_cons_of_mem _ hx)]; rfl
theorem wtL_take : ∀ (xs : List D) (n : Nat), wtL (xs.take n) ≤ wtL xs
  | [], n => by simp
  | x :: xs, 0 => by simp [wtL]
  | x :: xs, n + 1 => by rw [List.take_succ_cons, wtL, wtL]; have := wtL_take xs n; omega
theorem wtL_drop : ∀ (xs : List D) (n : Nat), wtL (xs.drop n) ≤ wtL xs
  | [], n => by simp
  | x :: xs, 0 => by simp
  | x :: xs, n + 1 => by rw [List.drop_succ_cons, wtL]; have := wtL_drop xs n; omega
theorem wtL_rev : ∀ (xs : List D), wtL xs.reverse = wtL xs
  | [] => rfl
  | x :: xs => by rw [List.reverse_cons, wtL_append, wtL_rev xs, wtL, wtL, wtL]; omega
mutual
theorem pln_mono : ∀ (n m : Nat) (d : D), n ≤ m → pln n d = true → pln m d = true
  | n, m, .non, _, _ => by simp [pln]
  | n, m, .bl _, _, _ => by simp [pln]
  | n, m, .int _, _, _ => by simp [pln]
  | n, m, .str _, _, _ => by simp [pln]
  | 0, m, .tup xs, _, p => by simp [pln] at p
  | n + 1, 0, .tup xs, h, _ => by omega
  | n + 1, m + 1, .tup xs, h, p => by
    simp only [pln] at p ⊢
    exact plnL_mono n m xs (by omega) p
  | 0, m, .lst xs, _, p => by simp [pln] at p
  | n + 1, 0, .lst xs, h, _ => by omega
  | n + 1, m + 1, .lst xs, h, p => by
    simp only [pln] at p ⊢
    exact plnL_mono n m xs (by omega) p
  | 0, m, .dct _ _, _, p => by simp [pln] at p
  | n + 1, 0, .dct _ _, h, _ => by omega
  | n + 1, m + 1, .dct t kvs, h, p => by
    simp only [pln, Bool.and_eq_true] at p ⊢
    exact ⟨p.1, plnL_mono n m _ (by omega) p.2⟩
  | n, m, .fz _, _, p => by simp [pln] at p
  | n, m, .scr _, _, p => by simp [pln] at p
  | n, m, .obj _ _, _, p => by simp [pln] at p
theorem plnL_mono : ∀ (n m : Nat) (ds : List D), n ≤ m → plnL n ds = true → plnL m ds = true
  | n, m, [], _, _ => by simp [plnL]
  | n, m, d :: ds, h, p => by
    simp only [plnL, Bool.and_eq_true] at p ⊢
    exact ⟨pln_mono n m d h p.1, plnL_mono n m ds h p.2⟩
end
/-! ### what is shown fits -/
theorem str_len (a b : Str) : (a ++ b).length = a.length + b.length := strLen_append a b
theorem textFrom_le : ∀ (ts : List Str) (k : Nat) (acc : Str), (textFrom k acc ts).length ≤ acc.length + piled ts
  | [], k, acc => by unfold textFrom; omega
  | t :: ts, k, acc => by
    unfold textFrom
    have := textFrom_le ts (k + 1) (acc ++ (if k > 0 then ", " else "" : String) ++ t)
    rw [str_len, str_len] at this
    have e : ((if k > 0 then ", " else "" : String) : Str).length ≤ 2 := by split <;> decide
    rw [piled_cons]
    omega
theorem listText_le (ts : List Str) : (listText ts).length ≤ piled ts + 2 := by
  unfold listText
  rw [str_len]
  have := textFrom_le ts 0 "["
  have e1 : (("[" : String) : Str).length = 1 := by decide
  have e2 : (("]" : String) : Str).length = 1 := by decide
  omega
theorem join_le (ts : List Str) : (Str.join ", " ts).length ≤ piled ts := by
  cases ts with
  | nil => decide
  | cons t ts => have := join_length_add (t :: ts) (by simp); omega
theorem tupleText_le (ts : List Str) : (tupleText ts).length ≤ piled ts + 3 := by
  unfold tupleText
  rw [str_len, str_len]
  have := join_le ts
  have e1 : (("(" : String) : Str).length = 1 := by decide
  have e2 : ((if ts.length == 1 then ",)" else ")" : String) : Str).length ≤ 2 := by split <;> decide
  omega
theorem dictText_le (ts : List Str) : (dictText ts).length ≤ piled ts + 2 := by
  unfold dictText
  rw [str_len, str_len]
  have := join_le ts
  have e1 : (("{" : String) : Str).length = 1 := by decide
  have e2 : (("}" : String) : Str).length = 1 := by decide
  omega
theorem str_size (s : Str) : s.length = s.cps.toList.length := by simp [PySem.Str.length]
mutual
theorem shown_le : ∀ (d : D), asc d = true → (py d).shown.length ≤ 10 * wt d
  | .non, _ => by simp only [py, PyData.shown, wt]; decide
  | .bl b, _ => by simp only [py, PyData.shown, wt]; cases b <;> decide
  | .int i, _ => by
    simp only [py, PyData.shown, wt]
    have := int_text_length_le (a := i) (k := i.natAbs.log2 + 1) (by omega) (by omega)
    have e : ((toString i : String) : Str).length = (toString i).length := PySem.ofString_length _
    rw [e]
    omega
  | .str s, h => by
    simp only [py, PyData.shown, wt]
    have := StrLaws.reprText_len s (fun c hc => by
      unfold asc ascS at h
      have := of_decide_eq_true (List.all_eq_true.mp h c hc)
      omega)
    omega
  | .tup xs, h => by
    simp only [py, PyData.shown, wt]
    have := shownL_le xs (by simpa [asc] using h)
    have := tupleText_le (PyData.shownAll (pyL xs))
    omega
  | .lst xs, h => by
    simp only [py, PyData.shown, wt]
    have := shownL_le xs (by simpa [asc] using h)
    have := listText_le (PyData.shownAll (pyL xs))
    omega
  | .dct t kvs, h => by
    simp only [py, PyData.shown, wt]
    have := shownK_le kvs (by simpa [asc] using h)
    have := dictText_le (PyData.shownKv (pyK kvs))
    omega
  | .fz _, _ => by simp only [py, PyData.shown, wt]; decide
  | .scr _, _ => by simp only [py, PyData.shown, wt]; decide
  | .obj _ _, _ => by simp only [py, PyData.shown, wt]; decide
theorem shownL_le : ∀ (ds : List D), ascL ds = true → piled (PyData.shownAll (pyL ds)) ≤ 10 * wtL ds
  | [], _ => by simp only [pyL, PyData.shownAll, wtL]; decide
  | d :: ds, h => by
    have h : asc d = true ∧ ascL ds = true := by simpa [ascL] using h
    simp only [pyL, PyData.shownAll, wtL, piled_cons]
    have := shown_le d h.1
    have := shownL_le ds h.2
    omega
theorem shownK_le : ∀ (kvs : List (D × D)), ascK kvs = true → piled (PyData.shownKv (pyK kvs)) ≤ 10 * wtK kvs
  | [], _ => by simp only [pyK, PyData.shownKv, wtK]; decide
  | (k, v) :: r, h => by
    have h : (asc k = true ∧ asc v = true) ∧ ascK r = true := by
      simp only [ascK, Bool.and_eq_true] at h
      refine ⟨⟨?_, h.1.2⟩, h.2⟩
      cases k <;> first | (exact h.1.1) | (cases h.1.1)
    simp only [pyK, PyData.shownKv, wtK, piled_cons, str_len]
    have := shown_le k h.1.1
    have := shown_le v h.1.2
    have := shownK_le r h.2
    have e : ((": " : String) : Str).length = 2 := by decide
    omega
end
mutual
theorem showable_of : ∀ (d : D) (n : Nat), wt d < 1920 → asc d = true → pln n d = true → (py d).showable = true ∧ (py d).depth ≤ n
  | .non, n, _, _, _ => by simp [py, PyData.showable, PyData.depth]
  | .bl b, n, _, _, _ => by simp [py, PyData.showable, PyData.depth]
  | .int i, n, h, _, _ => by
    rw [wt] at h
    simp [py, PyData.showable, PyData.depth]
    omega
  | .str s, n, _, _, _ => by simp [py, PyData.showable, PyData.depth]
  | .tup xs, 0, h, _, p => by simp [pln] at p
  | .tup xs, n + 1, h, a, p => by
    rw [wt] at h
    have p : plnL n xs = true := by simpa [pln] using p
    have q := showableL_of xs n (by omega) (by simpa [asc] using a) p
    simp only [py, PyData.showable, PyData.depth]
    exact ⟨q.1, by have := q.2; omega⟩
  | .lst xs, 0, h, _, p => by simp [pln] at p
  | .lst xs, n + 1, h, a, p => by
    rw [wt] at h
    have p : plnL n xs = true := by simpa [pln] using p
    have q := showableL_of xs n (by omega) (by simpa [asc] using a) p
    simp only [py, PyData.showable, PyData.depth]
    exact ⟨q.1, by have := q.2; omega⟩
  | .dct t kvs, 0, h, _, p => by simp [pln] at p
  | .dct t kvs, n + 1, h, a, p => by
    rw [wt] at h
    have p : plnL n (kvs.map (·.2)) = true := by
      simp only [pln, Bool.and_eq_true] at p
      exact p.2
    have q := showableK_of kvs n (by omega) (by simpa [asc] using a) p
    simp only [py, PyData.showable, PyData.depth]
    exact ⟨q.1, by have := q.2; omega⟩
  | .fz _, n, _, _, p => by simp [pln] at p
  | .scr _, n, _, _, p => by simp [pln] at p
  | .obj _ _, n, _, _, p => by simp [pln] at p
theorem showableL_of : ∀ (ds : List D) (n : Nat), wtL ds < 1920 → ascL ds = true → plnL n ds = true → PyData.showableAll (pyL ds) = true ∧ PyData.depthAll (pyL ds) ≤ n
  | [], n, _, _, _ => by simp [pyL, PyData.showableAll, PyData.depthAll]
  | d :: ds, n, h, a, p => by
    rw [wtL] at h
    have p : pln n d = true ∧ plnL n ds = true := by simpa [plnL] using p
    have a : asc d = true ∧ ascL ds = true := by simpa [ascL] using a
    have q := showable_of d n (by omega) a.1 p.1
    have r := showableL_of ds n (by omega) a.2 p.2
    simp only [pyL, PyData.showableAll, PyData.depthAll, q.1, r.1, Bool.and_self, true_and]
    have := q.2
    have := r.2
    omega
theorem showableK_of : ∀ (kvs : List (D × D)) (n : Nat), wtK kvs < 1920 → ascK kvs = true → plnL n (kvs.map (·.2)) = true → PyData.showableKv (pyK kvs) = true ∧ PyData.depthKv (pyK kvs) ≤ n
  | [], n, _, _, _ => by simp [pyK, PyData.showableKv, PyData.depthKv]
  | (k, v) :: r, n, h, a, p => by
    rw [wtK] at h
    have p : pln n v = true ∧ plnL n (r.map (·.2)) = true := by simpa [plnL] using p
    simp only [ascK, Bool.and_eq_true] at a
    have q := showable_of v n (by omega) a.1.2 p.1
    have z := showableK_of r n (by omega) a.2 p.2
    have kk : (py k).showable = true ∧ (py k).depth = 0 := by
      have := a.1.1
      cases k <;> first | (cases this; done) | simp [py, PyData.showable, PyData.depth]
    simp only [pyK, PyData.showableKv, PyData.depthKv, q.1, z.1, kk.1, kk.2, Bool.and_self, true_and]
    have := q.2
    have := z.2
    omega
end
theorem reprOk_of {d : D} (n : Nat) (hn : n ≤ 60) (h : wt d < 1920) (p : pln n d = true) (a : asc d = true) : reprOk d = true := by
  have q := showable_of d n h a p
  have e := shown_le d a
  unfold reprOk
  have p60 := pln_mono n 60 d hn p
  have sz : sizeLine = 16777216 := rfl
  rw [p60, q.1, decide_eq_true (by omega : (py d).shown.length ≤ sizeLine), decide_eq_true (by have := q.2; omega : (py d).depth ≤ 60)]
  rfl
/-- data of a bounded size -/
structure Gd (W n : Nat) (d : D) : Prop where
  w : wt d ≤ W
  p : pln n d = true
  a : asc d = true
theorem Gd.mono {W W' n n' : Nat} {d : D} (h : Gd W n d) (h1 : W ≤ W') (h2 : n ≤ n') : Gd W' n' d := ⟨Nat.le_trans h.w h1, pln_mono n n' d h2 h.p, h.a⟩
theorem Gd.repr {W n : Nat} {d : D} (h : Gd W n d) (h1 : W < 1920) (h2 : n ≤ 60) : reprOk d = true := reprOk_of n h2 (by have := h.w; omega) h.p h.a
end PD
end

section
set_option Elab.async false
set_option linter.all false
set_option maxRecDepth 100000
set_option maxHeartbeats 1000000
namespace PD
open PySem PySem.Spec PyProof.Rows L2
local macro_rules | `(tactic| walk_at "ev") => `(tactic| simp only [↓wE_var, ↓wE_bor, ↓wE_non, ↓wE_nop, ↓wE_bl, ↓wE_int, ↓wE_str, ↓wE_glo, ↓wE_tup, ↓wE_lst, ↓wE_dct, ↓wE_bin, ↓wE_neg, ↓wE_cmp, ↓wE_chn, ↓wE_nt, ↓wE_an, ↓wE_orr, ↓wE_ite, ↓wE_ix, ↓wE_sl, ↓wE_rev, ↓wE_cal, ↓wE_b1, ↓wE_b2, ↓wE_isi, ↓wE_m0, ↓wE_m1, ↓wE_mm0, ↓wE_mm1, ↓wE_cmpr, ↓wE_gin, ↓wE_gget, ↓wEs_nil, ↓wEs_cons, ↓wI_ex, ↓wI_rng1, ↓wI_rng2, ↓wI_zip, ↓wI_enum, ↓wS_asg, ↓wS_own, ↓wS_par, ↓wS_setix, ↓wS_expr, ↓wS_ite, ↓wS_whl, ↓wS_fr, ↓wS_ret, ↓wS_retN, ↓wS_retO, ↓wS_pass, ↓wS_brk, ↓wS_cnt, ↓wSs_nil, ↓wSs_cons, ↓q_fx_var, ↓q_fx_non, ↓q_fx_bl, ↓q_fx_int, ↓q_fx_str, ↓q_fx_nop, ↓q_fx_glo, ↓q_fx_tup, ↓q_fx_lst, ↓q_fx_dct, ↓q_fx_bin, ↓q_fx_neg, ↓q_fx_cmp, ↓q_fx_chn, ↓q_fx_nt, ↓q_fx_an, ↓q_fx_orr, ↓q_fx_ite, ↓q_fx_ix, ↓q_fx_sl, ↓q_fx_rev, ↓q_fx_cal, ↓q_fx_b1, ↓q_fx_b2, ↓q_fx_isi, ↓q_fx_m0, ↓q_fx_m1, ↓q_fx_m2, ↓q_fx_mm0, ↓q_fx_mm1, ↓q_fx_cmpr, ↓q_fx_gin, ↓q_fx_gget, ↓q_fx_bor, ↓q_fxs_nil, ↓q_fxs_cons, ↓q_lk_z, ↓q_lk_s, ↓q_wO_s, ↓q_ixO_nop, ↓q_ixO_var, ↓q_ixO_non, ↓q_ixO_bl, ↓q_ixO_int, ↓q_ixO_str, ↓q_ixO_glo, ↓q_ixO_tup, ↓q_ixO_lst, ↓q_ixO_dct, ↓q_ixO_bin, ↓q_ixO_neg, ↓q_ixO_cmp, ↓q_ixO_chn, ↓q_ixO_nt, ↓q_ixO_an, ↓q_ixO_orr, ↓q_ixO_ite, ↓q_ixO_ix, ↓q_ixO_sl, ↓q_ixO_rev, ↓q_ixO_cal, ↓q_ixO_b1, ↓q_ixO_b2, ↓q_ixO_isi, ↓q_ixO_m0, ↓q_ixO_m1, ↓q_ixO_m2, ↓q_ixO_mm0, ↓q_ixO_mm1, ↓q_ixO_cmpr, ↓q_ixO_gin, ↓q_ixO_gget, ↓q_asgT_nm, ↓q_asgT_tp, ↓q_setAll_nil, ↓q_setAll_cons, ↓q_wT_non, ↓q_wT_bl, ↓q_wT_int, ↓q_wT_tup, ↓q_wT_lst, ↓q_wT_str, ↓q_wB_bl, ↓q_wInt_int, ↓q_bin_add, ↓q_bin_sub, ↓q_bin_mul, ↓q_bin_mod, ↓q_bin_fdiv, ↓q_bin_pow, ↓q_bin_adds, ↓q_bin_addt, ↓q_bin_addl, ↓q_neg_int, ↓q_cmp_lt, ↓q_cmp_le, ↓q_cmp_gt, ↓q_cmp_ge, ↓q_cmp_eq, ↓q_cmp_ne, ↓q_cmp_in, ↓q_cmp_nin, ↓q_cmp_is, ↓q_cmp_isn, ↓q_eq_int, ↓q_eq_str, ↓q_eq_tupn, ↓q_eq_ntup, ↓q_eq_lstn, ↓q_in_str, ↓q_ix_lst, ↓q_ix_tup, ↓q_ix_scr, ↓q_ix_str, ↓q_sl_tup, ↓q_sl_lst, ↓q_sl_scr, ↓q_sl_str, ↓q_rev_tup, ↓q_rev_lst, ↓q_rev_str, ↓q_len_lst, ↓q_len_tup, ↓q_len_scr, ↓q_len_str, ↓q_abs_int, ↓q_int_int, ↓q_int_bl, ↓q_str_int, ↓q_all_lst, ↓q_any_lst, ↓q_tup_lst, ↓q_tup_tup, ↓q_lst_tup, ↓q_lst_lst, ↓q_rep_any, ↓q_max_two, ↓q_min_two, ↓q_up_str, ↓q_split_str, ↓q_join_str, ↓q_strip_str, ↓q_index_lst, ↓q_app_lst, ↓q_ext_lst, ↓q_pop_lst, ↓q_ty_list, ↓q_ty_str, ↓q_ty_str2, ↓q_ty_str3, ↓q_ty_idx, ↓q_set_lst, ↓q_strO_str, ↓q_it_tup, ↓q_it_lst, ↓q_it_scr, ↓q_it_str, ↓q_zip_st, ↓q_zip_ll, ↓q_zip_tt, ↓q_enum_l, ↓q_enum_t, ↓q_isi_non, ↓q_isi_bl, ↓q_isi_int, ↓q_isi_str, ↓q_isi_tup, ↓q_isi_lst, ↓q_isi_dct, ↓q_at0, ↓q_at1, ↓q_at2, ↓q_at3, ↓q_ixn0, ↓q_ixn1, ↓q_ixn2, ↓q_ixn3, ↓q_ixn4, ↓q_ixn5, ↓q_ixn6, ↓q_ixn7, ↓q_lkn, ↓q_lkn0, ↓q_lk0, ↓q_lkS, ↓q_wipe_nil, ↓q_wipe_cons, ↓q_back_nil, ↓q_back_cons, ↓q_ty_int_int, ↓q_ty_int_str, ↓q_ty_int_bool, ↓q_ty_int_tuple, ↓q_ty_int_list, ↓q_ty_int_dict, ↓q_ty_str_int, ↓q_ty_str_str, ↓q_ty_str_bool, ↓q_ty_str_tuple, ↓q_ty_str_list, ↓q_ty_str_dict, ↓q_ty_bool_int, ↓q_ty_bool_str, ↓q_ty_bool_bool, ↓q_ty_bool_tuple, ↓q_ty_bool_list, ↓q_ty_bool_dict, ↓q_ty_tuple_int, ↓q_ty_tuple_str, ↓q_ty_tuple_bool, ↓q_ty_tuple_tuple, ↓q_ty_tuple_list, ↓q_ty_tuple_dict, ↓q_ty_list_int, ↓q_ty_list_str, ↓q_ty_list_bool, ↓q_ty_list_tuple, ↓q_ty_list_list, ↓q_ty_list_dict, ↓q_ty_dict_int, ↓q_ty_dict_str, ↓q_ty_dict_bool, ↓q_ty_dict_tuple, ↓q_ty_dict_list, ↓q_ty_dict_dict, ↓q_kvs, ↓q_putIo, ↓q_cl_nil, ↓q_cl_bor, ↓q_pio_nil, ↓q_pio_bor, ↓q_cl_var, ↓q_pio_var, ↓q_cl_non, ↓q_pio_non, ↓q_cl_bl, ↓q_pio_bl, ↓q_cl_int, ↓q_pio_int, ↓q_cl_str, ↓q_pio_str, ↓q_cl_nop, ↓q_pio_nop, ↓q_cl_glo, ↓q_pio_glo, ↓q_cl_tup, ↓q_pio_tup, ↓q_cl_lst, ↓q_pio_lst, ↓q_cl_dct, ↓q_pio_dct, ↓q_cl_bin, ↓q_pio_bin, ↓q_cl_neg, ↓q_pio_neg, ↓q_cl_cmp, ↓q_pio_cmp, ↓q_cl_chn, ↓q_pio_chn, ↓q_cl_nt, ↓q_pio_nt, ↓q_cl_an, ↓q_pio_an, ↓q_cl_orr, ↓q_pio_orr, ↓q_cl_ite, ↓q_pio_ite, ↓q_cl_ix, ↓q_pio_ix, ↓q_cl_sl, ↓q_pio_sl, ↓q_cl_rev, ↓q_pio_rev, ↓q_cl_cal, ↓q_pio_cal, ↓q_cl_b1, ↓q_pio_b1, ↓q_cl_b2, ↓q_pio_b2, ↓q_cl_isi, ↓q_pio_isi, ↓q_cl_m0, ↓q_pio_m0, ↓q_cl_m1, ↓q_pio_m1, ↓q_cl_m2, ↓q_pio_m2, ↓q_cl_mm0, ↓q_pio_mm0, ↓q_cl_mm1, ↓q_pio_mm1, ↓q_cl_cmpr, ↓q_pio_cmpr, ↓q_cl_gin, ↓q_pio_gin, ↓q_cl_gget, ↓q_pio_gget, q_fx_var, q_fx_non, q_fx_bl, q_fx_int, q_fx_str, q_fx_nop, q_fx_glo, q_fx_tup, q_fx_lst, q_fx_dct, q_fx_bin, q_fx_neg, q_fx_cmp, q_fx_chn, q_fx_nt, q_fx_an, q_fx_orr, q_fx_ite, q_fx_ix, q_fx_sl, q_fx_rev, q_fx_cal, q_fx_b1, q_fx_b2, q_fx_isi, q_fx_m0, q_fx_m1, q_fx_m2, q_fx_mm0, q_fx_mm1, q_fx_cmpr, q_fx_gin, q_fx_gget, q_fx_bor, q_fxs_nil, q_fxs_cons, q_lk_z, q_lk_s, q_wO_s, q_ixO_nop, q_ixO_var, q_ixO_non, q_ixO_bl, q_ixO_int, q_ixO_str, q_ixO_glo, q_ixO_tup, q_ixO_lst, q_ixO_dct, q_ixO_bin, q_ixO_neg, q_ixO_cmp, q_ixO_chn, q_ixO_nt, q_ixO_an, q_ixO_orr, q_ixO_ite, q_ixO_ix, q_ixO_sl, q_ixO_rev, q_ixO_cal, q_ixO_b1, q_ixO_b2, q_ixO_isi, q_ixO_m0, q_ixO_m1, q_ixO_m2, q_ixO_mm0, q_ixO_mm1, q_ixO_cmpr, q_ixO_gin, q_ixO_gget, q_asgT_nm, q_asgT_tp, q_setAll_nil, q_setAll_cons, q_wT_non, q_wT_bl, q_wT_int, q_wT_tup, q_wT_lst, q_wT_str, q_wB_bl, q_wInt_int, q_bin_add, q_bin_sub, q_bin_mul, q_bin_mod, q_bin_fdiv, q_bin_pow, q_bin_adds, q_bin_addt, q_bin_addl, q_neg_int, q_cmp_lt, q_cmp_le, q_cmp_gt, q_cmp_ge, q_cmp_eq, q_cmp_ne, q_cmp_in, q_cmp_nin, q_cmp_is, q_cmp_isn, q_eq_int, q_eq_str, q_eq_tupn, q_eq_ntup, q_eq_lstn, q_in_str, q_ix_lst, q_ix_tup, q_ix_scr, q_ix_str, q_sl_tup, q_sl_lst, q_sl_scr, q_sl_str, q_rev_tup, q_rev_lst, q_rev_str, q_len_lst, q_len_tup, q_len_scr, q_len_str, q_abs_int, q_int_int, q_int_bl, q_str_int, q_all_lst, q_any_lst, q_tup_lst, q_tup_tup, q_lst_tup, q_lst_lst, q_rep_any, q_max_two, q_min_two, q_up_str, q_split_str, q_join_str, q_strip_str, q_index_lst, q_app_lst, q_ext_lst, q_pop_lst, q_ty_list, q_ty_str, q_ty_str2, q_ty_str3, q_ty_idx, q_set_lst, q_strO_str, q_it_tup, q_it_lst, q_it_scr, q_it_str, q_zip_st, q_zip_ll, q_zip_tt, q_enum_l, q_enum_t, q_isi_non, q_isi_bl, q_isi_int, q_isi_str, q_isi_tup, q_isi_lst, q_isi_dct, q_at0, q_at1, q_at2, q_at3, q_ixn0, q_ixn1, q_ixn2, q_ixn3, q_ixn4, q_ixn5, q_ixn6, q_ixn7, q_lkn, q_lkn0, q_lk0, q_lkS, q_wipe_nil, q_wipe_cons, q_back_nil, q_back_cons, q_ty_int_int, q_ty_int_str, q_ty_int_bool, q_ty_int_tuple, q_ty_int_list, q_ty_int_dict, q_ty_str_int, q_ty_str_str, q_ty_str_bool, q_ty_str_tuple, q_ty_str_list, q_ty_str_dict, q_ty_bool_int, q_ty_bool_str, q_ty_bool_bool, q_ty_bool_tuple, q_ty_bool_list, q_ty_bool_dict, q_ty_tuple_int, q_ty_tuple_str, q_ty_tuple_bool, q_ty_tuple_tuple, q_ty_tuple_list, q_ty_tuple_dict, q_ty_list_int, q_ty_list_str, q_ty_list_bool, q_ty_list_tuple, q_ty_list_list, q_ty_list_dict, q_ty_dict_int, q_ty_dict_str, q_ty_dict_bool, q_ty_dict_tuple, q_ty_dict_list, q_ty_dict_dict, q_kvs, q_putIo, q_cl_nil, q_cl_bor, q_pio_nil, q_pio_bor, q_cl_var, q_pio_var, q_cl_non, q_pio_non, q_cl_bl, q_pio_bl, q_cl_int, q_pio_int, q_cl_str, q_pio_str, q_cl_nop, q_pio_nop, q_cl_glo, q_pio_glo, q_cl_tup, q_pio_tup, q_cl_lst, q_pio_lst, q_cl_dct, q_pio_dct, q_cl_bin, q_pio_bin, q_cl_neg, q_pio_neg, q_cl_cmp, q_pio_cmp, q_cl_chn, q_pio_chn, q_cl_nt, q_pio_nt, q_cl_an, q_pio_an, q_cl_orr, q_pio_orr, q_cl_ite, q_pio_ite, q_cl_ix, q_pio_ix, q_cl_sl, q_pio_sl, q_cl_rev, q_pio_rev, q_cl_cal, q_pio_cal, q_cl_b1, q_pio_b1, q_cl_b2, q_pio_b2, q_cl_isi, q_pio_isi, q_cl_m0, q_pio_m0, q_cl_m1, q_pio_m1, q_cl_m2, q_pio_m2, q_cl_mm0, q_pio_mm0, q_cl_mm1, q_pio_mm1, q_cl_cmpr, q_pio_cmpr, q_cl_gin, q_pio_gin, q_cl_gget, q_pio_gget, List.set_cons_zero, List.set_cons_succ, List.length_cons, List.length_nil, List.map_cons, List.map_nil, List.replicate_succ, List.replicate_zero, List.cons_append, List.nil_append, List.take_succ_cons, List.take_zero, true_and, and_true, Bool.not_true, Bool.not_false, if_true, Bool.false_eq_true, if_false, cond_true, cond_false, Option.isNone_some, Bool.or_true, Bool.true_or, Bool.or_false, Bool.false_or, Bool.and_true, Bool.true_and, Bool.and_false, Bool.false_and, Nat.reduceAdd, Nat.reduceSub, Nat.reduceLT, Nat.reduceLeDiff, Nat.zero_add, Int.reduceLT, Int.reduceLE, reduceCtorEq, decide_eq_true_eq, Nat.lt_add_one, Nat.zero_lt_succ, *])
/-! QM: names -/
def isNm (s : Str) : Bool := decide (1 ≤ s.cps.toList.length) && decide (s.cps.toList.length ≤ 8) && s.cps.toList.all fun c => decide (97 ≤ c) && decide (c ≤ 122)
structure NamesOk (L : List Str) : Prop where
  nm : ∀ s ∈ L, isNm s = true
  nd : L.Nodup
theorem sIx_nn {n d : Nat} {i : Int} (h : 0 ≤ i) : HT.sIx n d (some i) = min i.toNat n := by
  show (if i < 0 then (i + (n : Int)).toNat else min i.toNat n) = _
  rw [if_neg (by omega)]
theorem cutD_nn {xs : List D} {i j : Int} (h1 : 0 ≤ i) (h2 : 0 ≤ j) : cutD xs (some i) (some j) = (xs.drop i.toNat).take (j.toNat - i.toNat) := by
  unfold cutD
  rw [sIx_nn h1, sIx_nn h2]
  by_cases h : i.toNat ≤ xs.length
  · rw [Nat.min_eq_left h]
    by_cases h' : j.toNat ≤ xs.length
    · rw [Nat.min_eq_left h']
    · rw [Nat.min_eq_right (by omega), List.take_of_length_le (by rw [List.length_drop]; omega), List.take_of_length_le (by rw [List.length_drop]; omega)]
  · rw [List.drop_eq_nil_of_le (show xs.length ≤ min i.toNat xs.length by omega), List.drop_eq_nil_of_le (show xs.length ≤ i.toNat by omega)]
    simp
theorem cutS_to {s : Str} {j : Int} (h : 0 ≤ j) : (cutS s none (some j)).cps.toList = s.cps.toList.take j.toNat := by
  unfold cutS
  rw [sIx_nn h]
  show (((s.cps.toList.drop 0).take (min j.toNat s.length - 0)).toArray).toList = _
  rw [List.drop_zero, Nat.sub_zero, str_size]
  by_cases h' : j.toNat ≤ s.cps.toList.length
  · rw [Nat.min_eq_left h']
  · rw [Nat.min_eq_right (by omega), List.take_length, List.take_of_length_le (by omega)]
theorem cutS_from {s : Str} {i : Int} (h : 0 ≤ i) : (cutS s (some i) none).cps.toList = s.cps.toList.drop i.toNat := by
  unfold cutS
  rw [sIx_nn h]
  show (((s.cps.toList.drop (min i.toNat s.length)).take (s.length - min i.toNat s.length)).toArray).toList = _
  rw [str_size]
  by_cases h' : i.toNat ≤ s.cps.toList.length
  · rw [Nat.min_eq_left h']
    exact List.take_of_length_le (by rw [List.length_drop]; omega)
  · rw [Nat.min_eq_right (by omega), List.drop_length, List.drop_eq_nil_of_le (by omega)]
    simp
theorem app_cps (a b : Str) : (a ++ b).cps.toList = a.cps.toList ++ b.cps.toList := by
  show (a.cps ++ b.cps).toList = _
  simp
theorem fits_of {s : Str} (h : s.cps.toList.length ≤ 1000000) : fits s = true := by
  unfold fits
  rw [str_size]
  have : sizeLine = 16777216 := rfl
  exact decide_eq_true (by omega)
theorem fitn_of {n : Nat} (h : n ≤ 1000000) : fitn n = true := by
  unfold fitn
  have : sizeLine = 16777216 := rfl
  exact decide_eq_true (by omega)
theorem strsD_map : ∀ (L : List Str), strsD (L.map .str) = some L
  | [] => rfl
  | s :: L => by
    rw [List.map_cons]
    show (strsD (L.map .str)).map (s :: ·) = _
    rw [strsD_map L]; rfl
theorem cat_cps : ∀ (L : List Str), (Str.join Str.empty L).cps.toList = L.flatMap fun s => s.cps.toList
  | [] => rfl
  | [x] => by simp [Str.join]
  | x :: y :: r => by
    show ((x ++ Str.empty) ++ Str.join Str.empty (y :: r)).cps.toList = _
    rw [app_cps, app_cps, cat_cps (y :: r), List.flatMap_cons]
    have : (Str.empty).cps.toList = [] := rfl
    rw [this, List.append_nil, List.flatMap_cons, List.flatMap_cons]
theorem join_cps (L : List Str) : (Txt.join Str.empty L).cps.toList = L.flatMap fun s => s.cps.toList := by
  unfold Txt.join
  rw [StrLaws.glued_eq_join, cat_cps]
theorem str_ext {a b : Str} (h : a.cps.toList = b.cps.toList) : a = b := by
  obtain ⟨⟨a⟩⟩ := a
  obtain ⟨⟨b⟩⟩ := b
  cases h
  rfl
theorem join_ones (L : List Nat) : Txt.join ("" : Str) (L.map fun c => (⟨#[c]⟩ : Str)) = ⟨L.toArray⟩ := by
  have := join_cps (L.map fun c => (⟨#[c]⟩ : Str))
  rw [List.flatMap_map] at this
  have e2 : (L.flatMap fun c => (⟨#[c]⟩ : Str).cps.toList) = L := by
    clear this
    induction L with
    | nil => rfl
    | cons a L ih => rw [List.flatMap_cons, ih]; rfl
  rw [e2] at this
  exact str_ext this
theorem sum_ones : ∀ (L : List Nat), ((L.map fun c => (⟨#[c]⟩ : Str)).map fun x => x.length).sum = L.length
  | [] => rfl
  | a :: L => by
    rw [List.map_cons, List.map_cons, List.sum_cons, sum_ones L, List.length_cons, Nat.add_comm]; rfl
theorem rngD_get {lo : Int} {n i : Nat} {d : D} (h : (rngD lo n)[i]? = some d) : d = .int (lo + (i : Nat)) ∧ i < n := by
  have hi : i < n := by
    have := (List.getElem?_eq_some_iff.mp h).1
    simpa [rngD] using this
  rw [rng_get hi] at h
  exact ⟨(Option.some.inj h).symm, hi⟩
theorem at_letter {e : Int} (h0 : 0 ≤ e) (h1 : e < 26) : atI ("abcdefghijklmnopqrstuvwxyz" : Str).cps.toList e = some (97 + e.toNat) := by
  have q : (List.range 26).all (fun k => decide (atI ("abcdefghijklmnopqrstuvwxyz" : Str).cps.toList (k : Int) = some (97 + k))) = true := by decide +kernel
  have := List.all_eq_true.mp q e.toNat (List.mem_range.mpr (by omega))
  have h := of_decide_eq_true this
  rw [Int.toNat_of_nonneg h0] at h
  exact h
/-- a name of the menu: a text with another sign at a place -/
def nmAt (L : List Nat) (a : Nat) (b z : Int) (k : Nat) : Str := ⟨(L.take a ++ [97 + ((b + (1 + 2 * z) * k) % 26).toNat] ++ L.drop (a + 1)).toArray⟩
theorem nmAt_ok {L : List Nat} {a : Nat} {b z : Int} {k : Nat} (h1 : 1 ≤ L.length) (h2 : L.length ≤ 8) (ha : a < L.length) (hc : ∀ c ∈ L, 97 ≤ c ∧ c ≤ 122) : isNm (nmAt L a b z k) = true := by
  have e1 := Int.emod_nonneg (b + (1 + 2 * z) * (k : Int)) (show (26 : Int) ≠ 0 by decide)
  have e2 := Int.emod_lt_of_pos (b + (1 + 2 * z) * (k : Int)) (show (0 : Int) < 26 by decide)
  unfold isNm nmAt
  simp only [Bool.and_eq_true, decide_eq_true_eq, List.all_eq_true, List.length_append, List.length_take, List.length_drop, List.length_singleton]
  refine ⟨⟨by omega, by omega⟩, fun c hc' => ?_⟩
  rcases List.mem_append.mp hc' with q | q
  · rcases List.mem_append.mp q with q | q
    · exact hc c (List.mem_of_mem_take q)
    · rw [List.mem_singleton] at q; omega
  · exact hc c (List.mem_of_mem_drop q)
theorem nmAt_inj {L : List Nat} {a : Nat} {b z : Int} {i j : Nat} (z0 : 0 ≤ z) (z1 : z < 6) (ha : a < L.length) (hi : i < 10) (hj : j < 10) (e : nmAt L a b z i = nmAt L a b z j) : i = j := by
  have e1 : (nmAt L a b z i).cps.toList[a]? = (nmAt L a b z j).cps.toList[a]? := by rw [e]
  have at_ : ∀ k, (nmAt L a b z k).cps.toList[a]? = some (97 + ((b + (1 + 2 * z) * (k : Int)) % 26).toNat) := fun k => by
    show ((L.take a ++ [97 + ((b + (1 + 2 * z) * (k : Int)) % 26).toNat]) ++ L.drop (a + 1))[a]? = _
    have hl : (L.take a).length = a := by rw [List.length_take]; omega
    rw [List.getElem?_append_left (by rw [List.length_append, hl, List.length_singleton]; omega), List.getElem?_append_right (by omega), hl, Nat.sub_self]
    rfl
  rw [at_ i, at_ j] at e1
  have e2 := Option.some.inj e1
  have p1 := Int.emod_nonneg (b + (1 + 2 * z) * (i : Int)) (show (26 : Int) ≠ 0 by decide)
  have p2 := Int.emod_nonneg (b + (1 + 2 * z) * (j : Int)) (show (26 : Int) ≠ 0 by decide)
  have hz : z = 0 ∨ z = 1 ∨ z = 2 ∨ z = 3 ∨ z = 4 ∨ z = 5 := by omega
  rcases hz with rfl | rfl | rfl | rfl | rfl | rfl <;> omega
def namesB (L : List Str) : Bool := L.all isNm && decide L.Nodup
def menuB (S : List Str) : Bool := (List.range 10).all fun y => (List.range 11).all fun m => namesB (((S ++ S).drop y).take m) && decide ((((S ++ S).drop y).take m).length = m)
theorem namesB_of {L : List Str} (h : namesB L = true) : NamesOk L := by
  unfold namesB at h
  rw [Bool.and_eq_true, List.all_eq_true, decide_eq_true_eq] at h
  exact ⟨h.1, h.2⟩
theorem menuB_of {S : List Str} (h : menuB S = true) (y : Nat) (hy : y < 10) (m : Nat) (hm : m < 11) : NamesOk (((S ++ S).drop y).take m) ∧ (((S ++ S).drop y).take m).length = m := by
  unfold menuB at h
  have := List.all_eq_true.mp (List.all_eq_true.mp h y (List.mem_range.mpr hy)) m (List.mem_range.mpr hm)
  rw [Bool.and_eq_true, decide_eq_true_eq] at this
  exact ⟨namesB_of this.1, this.2⟩
section
variable {G : List D} {fns : List Fn} {wf n f : Nat} {Q : D → PD.Env → Prop} {X : XQ} {dk : D}
/-- _law_menu -/
def menuFn (iD iP : Nat) : Fn := ⟨2, 14, [true, false, true, false, false, false, false, false, false, false, false, false, false, false], false,
      (.cons (.own 2 (.lst (.cons (.str "p q r s t u v w x y") (.cons (.str "x xa xab a aa ab b ba z zz") .nil))))
      (.cons (.expr (.mm1 .append 2 (.str "aaaaaaaa aaaaaaab aaaaaaac baaaaaaa z y zy abc c d")))
      (.cons (.expr (.mm1 .append 2 (.str "set step fuse put way here one need bar swap")))
      (.cons (.asg (.nm 3) (.cal iD (.cons (.bor 0) (.cons (.int 8) .nil))))
      (.cons (.ite (.cmp .lt (.var 3) (.int 4))
      (.cons (.par [10, 11] (.cons (.cal iD (.cons (.bor 0) (.cons (.int 10) .nil))) (.cons (.m1 .split (.ix (.bor 2) (.var 3)) (.str " ")) .nil)))
      (.cons (.ret (.sl (.bin .add (.var 11) (.var 11)) (.var 10) (.bin .add (.var 10) (.var 1))))
      .nil))
      .nil)
      (.cons (.asg (.nm 4) (.str "abcdefghijklmnopqrstuvwxyz"))
      (.cons (.asg (.nm 5) (.m1 .join (.str "") (.cmpr (.cal iP (.cons (.bor 0) (.cons (.var 4) .nil))) (.nm 12) [12] (.rng1 (.bin .add (.int 1) (.cal iD (.cons (.bor 0) (.cons (.int 8) .nil))))) (.bl true))))
      (.cons (.asg (.tp [6, 7]) (.tup (.cons (.cal iD (.cons (.bor 0) (.cons (.b1 .len (.var 5)) .nil))) (.cons (.cal iD (.cons (.bor 0) (.cons (.int 26) .nil))) .nil))))
      (.cons (.asg (.nm 8) (.bin .add (.int 1) (.bin .mul (.int 2) (.cal iD (.cons (.bor 0) (.cons (.int 6) .nil))))))
      (.cons (.asg (.nm 9) (.cmpr (.ix (.var 4) (.bin .mod (.b1 .int (.bin .add (.var 7) (.bin .mul (.var 8) (.var 12)))) (.int 26))) (.nm 12) [12] (.rng1 (.var 1)) (.bl true)))
      (.cons (.ret (.cmpr (.bin .add (.bin .add (.sl (.var 5) .nop (.var 6)) (.var 13)) (.sl (.var 5) (.bin .add (.var 6) (.int 1)) .nop)) (.nm 13) [13] (.ex (.var 9)) (.bl true)))
      .nil)))))))))))⟩
theorem menu_w {c : Int} {iD iP : Nat} (hF : fns[f]? = some (menuFn iD iP)) (hD : fns[iD]? = some (drawFn c)) (hP : fns[iP]? = some (pickFn iD)) (hn : 3 ≤ n) (h : IsDeck dk) {many : Int} (h0 : 0 ≤ many) (h1 : many ≤ 10)
    (k : ∀ (L : List Str) (dk' : D), IsDeck dk' → NamesOk L → L.length = many.toNat → Q (.lst (L.map .str)) [some dk', some (.int many)]) : wC (callF G fns wf n f [dk, .int many]) Q X := by
  refine wC_callF hF (by omega) rfl ?_
  unfold menuFn
  walk_at "ev"
  refine ⟨by decide, by decide, by decide, draw_w hD (by omega) h (by decide) (by decide) fun x dk1 hd1 x0 x1 => ?_⟩
  walk_at "ev"
  split
  · refine draw_w hD (by omega) hd1 (by decide) (by decide) fun y dk2 hd2 y0 y1 => ?_
    walk_at "ev"
    have fin : ∀ S : List Str, menuB S = true → Q (.lst (cutD (S.map .str ++ S.map .str) (some y) (some (y + many)))) [some dk2, some (D.int many)] := fun S hS => by
      have hb := menuB_of hS y.toNat (by omega) many.toNat (by omega)
      have e : cutD (S.map D.str ++ S.map D.str) (some y) (some (y + many)) = (((S ++ S).drop y.toNat).take many.toNat).map D.str := by
        rw [cutD_nn y0 (by omega), ← List.map_append, ← List.map_drop, ← List.map_take, show (y + many).toNat - y.toNat = many.toNat by omega]
      rw [e]
      exact k _ _ hd2 hb.1 hb.2
    have hx : x = 0 ∨ x = 1 ∨ x = 2 ∨ x = 3 := by omega
    rcases hx with rfl | rfl | rfl | rfl <;> walk_at "ev" <;> exact ⟨by decide +kernel, by decide +kernel, fin _ (by decide +kernel)⟩
  · refine draw_w hD (by omega) hd1 (by decide) (by decide) fun y dk2 hd2 y0 y1 => ?_
    walk_at "ev"
    refine ⟨?_, ?_, ?_⟩
    · unfold okR
      rw [decide_eq_true (by omega), decide_eq_true (by omega)]; rfl
    · refine fitn_of ?_
      simp only [rngD, List.length_map, List.length_range]
      omega
    refine wL_inv (fun i ys ρ => ∃ (dk : D) (L : List Nat) (u : Option D), IsDeck dk ∧ ρ = [some dk, some (D.int many), some (D.lst [D.str "p q r s t u v w x y", D.str "x xa xab a aa ab b ba z zz", D.str "aaaaaaaa aaaaaaab aaaaaaac baaaaaaa z y zy abc c d", D.str "set step fuse put way here one need bar swap"]), some (.int x), some (.str "abcdefghijklmnopqrstuvwxyz"), none, none, none, none, none, none, none, u, none] ∧ ys = L.map (fun c => .str ⟨#[c]⟩) ∧ L.length = i ∧ ∀ c ∈ L, 97 ≤ c ∧ c ≤ 122) ⟨dk2, [], none, hd2, rfl, rfl, rfl, by simp⟩ ?_ ?_
    · rintro i d ys ρ hd ⟨dk3, L, u, hd3, rfl, rfl, hL, hc⟩
      walk_at "ev"
      refine pick_str hP hD (by omega) hd3 (by decide +kernel) (by decide +kernel) fun z dk4 hd4 hz => ?_
      walk_at "ev"
      refine ⟨dk4, L ++ [z], _, hd4, rfl, by simp, by rw [List.length_append, hL]; rfl, fun c hc' => ?_⟩
      rcases List.mem_append.mp hc' with q | q
      · exact hc c q
      · rw [List.mem_singleton] at q
        rw [q]
        have al : ("abcdefghijklmnopqrstuvwxyz" : Str).cps.toList.all (fun c => decide (97 ≤ c) && decide (c ≤ 122)) = true := by decide +kernel
        have := List.all_eq_true.mp al z hz
        simpa using this
    · rintro ys ρ ⟨dk3, L, u, hd3, rfl, rfl, hL, hc⟩
      replace hL : L.length = (1 + y).toNat := by rw [hL]; simp [rngD]
      have es : strsD (L.map fun c => D.str ⟨#[c]⟩) = some (L.map fun c => (⟨#[c]⟩ : Str)) := by
        rw [show (L.map fun c => D.str ⟨#[c]⟩) = (L.map fun c => (⟨#[c]⟩ : Str)).map D.str by rw [List.map_map]; rfl, strsD_map]
      have ej := join_ones L
      have esum := sum_ones L
      have elen : (⟨L.toArray⟩ : Str).length = L.length := by simp [PySem.Str.length]
      have efit : fits (⟨L.toArray⟩ : Str) = true := fits_of (by simp; omega)
      walk_at "ev"
      refine ⟨?_, ?_⟩
      · have : (("" : String) : Str).length = 0 := by decide
        rw [this, List.length_map, hL]; omega
      refine draw_w hD (by omega) hd3 (by omega) (by omega) fun at_ dk4 hd4 a0 a1 => ?_
      walk_at "ev"
      refine draw_w hD (by omega) hd4 (by decide) (by decide) fun b dk5 hd5 b0 b1 => ?_
      walk_at "ev"
      refine ⟨by decide, draw_w hD (by omega) hd5 (by decide) (by decide) fun z dk6 hd6 z0 z1 => ?_⟩
      walk_at "ev"
      refine ⟨mulOk_l (by decide) (by decide), ?_, ?_, ?_⟩
      · unfold okR
        rw [decide_eq_true (by omega), decide_eq_true (by omega)]; rfl
      · refine fitn_of ?_
        simp only [rngD, List.length_map, List.length_range]
        omega
      refine wL_inv (fun i ys ρ => ∃ u : Option D, ρ = [some dk6, some (D.int many), some (D.lst [D.str "p q r s t u v w x y", D.str "x xa xab a aa ab b ba z zz", D.str "aaaaaaaa aaaaaaab aaaaaaac baaaaaaa z y zy abc c d", D.str "set step fuse put way here one need bar swap"]), some (.int x), some (.str "abcdefghijklmnopqrstuvwxyz"), some (.str ⟨L.toArray⟩), some (.int at_), some (.int b), some (.int (1 + 2 * z)), none, none, none, u, none] ∧ ys = (List.range i).map (fun (k : Nat) => .str ⟨#[97 + ((b + (1 + 2 * z) * k) % 26).toNat]⟩)) ⟨_, rfl, rfl⟩ ?_ ?_
      · rintro i d ys ρ hd ⟨u, rfl, rfl⟩
        obtain ⟨e, hi⟩ := rngD_get hd
        subst e
        have e1 := Int.emod_nonneg (b + (1 + 2 * z) * (0 + (i : Int))) (show (26 : Int) ≠ 0 by decide)
        have e2 := Int.emod_lt_of_pos (b + (1 + 2 * z) * (0 + (i : Int))) (show (0 : Int) < 26 by decide)
        have e3 := at_letter e1 e2
        walk_at "ev"

        refine ⟨mulOk_l (by omega) (by omega), fits_of (s := "abcdefghijklmnopqrstuvwxyz") (by decide +kernel), _, rfl, ?_⟩
        rw [List.range_succ, List.map_append, List.map_singleton, Int.zero_add]
      · rintro ys ρ ⟨u, rfl, rfl⟩
        have hlen : (rngD 0 many.toNat).length = many.toNat := by simp [rngD]
        rw [hlen]
        walk_at "ev"
        refine ⟨fitn_of (by rw [List.length_map, List.length_range]; omega), ?_⟩
        have lt : at_.toNat < L.length := by omega
        refine wL_inv (fun i ys ρ => ∃ u : Option D, ρ = [some dk6, some (D.int many), some (D.lst [D.str "p q r s t u v w x y", D.str "x xa xab a aa ab b ba z zz", D.str "aaaaaaaa aaaaaaab aaaaaaac baaaaaaa z y zy abc c d", D.str "set step fuse put way here one need bar swap"]), some (.int x), some (.str "abcdefghijklmnopqrstuvwxyz"), some (.str ⟨L.toArray⟩), some (.int at_), some (.int b), some (.int (1 + 2 * z)), some (.lst ((List.range many.toNat).map (fun (k : Nat) => D.str ⟨#[97 + ((b + (1 + 2 * z) * k) % 26).toNat]⟩))), none, none, none, u] ∧ ys = (List.range i).map (fun k => .str (nmAt L at_.toNat b z k))) ?_ ?_ ?_
        · exact ⟨_, rfl, rfl⟩
        · rintro i d ys ρ hd ⟨u, rfl, rfl⟩
          have hi : i < many.toNat := by
            have := (List.getElem?_eq_some_iff.mp hd).1
            simpa using this
          rw [List.getElem?_map, List.getElem?_range hi] at hd
          cases hd
          have ht : (cutS (⟨L.toArray⟩ : Str) none (some at_)).cps.toList = L.take at_.toNat := cutS_to a0
          have hf : (cutS (⟨L.toArray⟩ : Str) (some (at_ + 1)) none).cps.toList = L.drop (at_.toNat + 1) := by
            rw [cutS_from (by omega)]
            show L.drop (at_ + 1).toNat = _
            congr 1
            omega
          walk_at "ev"
          have l1 : (cutS (⟨L.toArray⟩ : Str) none (some at_)).length ≤ 9 := by rw [str_size, ht, List.length_take]; omega
          have l2 : (cutS (⟨L.toArray⟩ : Str) (some (at_ + 1)) none).length ≤ 9 := by rw [str_size, hf, List.length_drop]; omega
          have l3 : (⟨#[97 + ((b + (1 + 2 * z) * (i : Int)) % 26).toNat]⟩ : Str).length = 1 := rfl
          refine ⟨fitn_of (by omega), fitn_of (by rw [str_len]; omega), _, rfl, ?_⟩
          rw [List.range_succ, List.map_append, List.map_singleton]
          congr 2
          congr 1
          refine str_ext ?_
          rw [app_cps, app_cps, ht, hf]
          rfl
        · rintro ys ρ ⟨u, rfl, rfl⟩
          have e0 : ((List.range many.toNat).map fun (k : Nat) => D.str ⟨#[97 + ((b + (1 + 2 * z) * (k : Int)) % 26).toNat]⟩).length = many.toNat := by simp
          rw [e0]
          walk_at "ev"
          rw [show ((List.range many.toNat).map fun (k : Nat) => D.str (nmAt L at_.toNat b z k)) = ((List.range many.toNat).map fun (k : Nat) => nmAt L at_.toNat b z k).map D.str by rw [List.map_map]; rfl]
          refine k _ _ hd6 ⟨fun s hs => ?_, ?_⟩ (by simp)
          · obtain ⟨k, hk, rfl⟩ := List.mem_map.mp hs
            exact nmAt_ok (by omega) (by omega) lt hc
          · rw [List.nodup_iff_pairwise_ne, List.pairwise_map]
            refine List.Pairwise.imp_of_mem ?_ List.pairwise_lt_range
            intro i j hi hj hij e
            exact absurd (nmAt_inj z0 z1 lt (by have := List.mem_range.mp hi; omega) (by have := List.mem_range.mp hj; omega) e) (by omega)
end
end PD
end

section
set_option Elab.async false
set_option linter.all false
set_option maxRecDepth 100000
set_option maxHeartbeats 1000000
namespace PD
open PySem PySem.Spec PyProof.Rows L2
local macro_rules | `(tactic| walk_at "ev") => `(tactic| simp only [↓wE_var, ↓wE_bor, ↓wE_non, ↓wE_nop, ↓wE_bl, ↓wE_int, ↓wE_str, ↓wE_glo, ↓wE_tup, ↓wE_lst, ↓wE_dct, ↓wE_bin, ↓wE_neg, ↓wE_cmp, ↓wE_chn, ↓wE_nt, ↓wE_an, ↓wE_orr, ↓wE_ite, ↓wE_ix, ↓wE_sl, ↓wE_rev, ↓wE_cal, ↓wE_b1, ↓wE_b2, ↓wE_isi, ↓wE_m0, ↓wE_m1, ↓wE_mm0, ↓wE_mm1, ↓wE_cmpr, ↓wE_gin, ↓wE_gget, ↓wEs_nil, ↓wEs_cons, ↓wI_ex, ↓wI_rng1, ↓wI_rng2, ↓wI_zip, ↓wI_enum, ↓wS_asg, ↓wS_own, ↓wS_par, ↓wS_setix, ↓wS_expr, ↓wS_ite, ↓wS_whl, ↓wS_fr, ↓wS_ret, ↓wS_retN, ↓wS_retO, ↓wS_pass, ↓wS_brk, ↓wS_cnt, ↓wSs_nil, ↓wSs_cons, ↓q_fx_var, ↓q_fx_non, ↓q_fx_bl, ↓q_fx_int, ↓q_fx_str, ↓q_fx_nop, ↓q_fx_glo, ↓q_fx_tup, ↓q_fx_lst, ↓q_fx_dct, ↓q_fx_bin, ↓q_fx_neg, ↓q_fx_cmp, ↓q_fx_chn, ↓q_fx_nt, ↓q_fx_an, ↓q_fx_orr, ↓q_fx_ite, ↓q_fx_ix, ↓q_fx_sl, ↓q_fx_rev, ↓q_fx_cal, ↓q_fx_b1, ↓q_fx_b2, ↓q_fx_isi, ↓q_fx_m0, ↓q_fx_m1, ↓q_fx_m2, ↓q_fx_mm0, ↓q_fx_mm1, ↓q_fx_cmpr, ↓q_fx_gin, ↓q_fx_gget, ↓q_fx_bor, ↓q_fxs_nil, ↓q_fxs_cons, ↓q_lk_z, ↓q_lk_s, ↓q_wO_s, ↓q_ixO_nop, ↓q_ixO_var, ↓q_ixO_non, ↓q_ixO_bl, ↓q_ixO_int, ↓q_ixO_str, ↓q_ixO_glo, ↓q_ixO_tup, ↓q_ixO_lst, ↓q_ixO_dct, ↓q_ixO_bin, ↓q_ixO_neg, ↓q_ixO_cmp, ↓q_ixO_chn, ↓q_ixO_nt, ↓q_ixO_an, ↓q_ixO_orr, ↓q_ixO_ite, ↓q_ixO_ix, ↓q_ixO_sl, ↓q_ixO_rev, ↓q_ixO_cal, ↓q_ixO_b1, ↓q_ixO_b2, ↓q_ixO_isi, ↓q_ixO_m0, ↓q_ixO_m1, ↓q_ixO_m2, ↓q_ixO_mm0, ↓q_ixO_mm1, ↓q_ixO_cmpr, ↓q_ixO_gin, ↓q_ixO_gget, ↓q_asgT_nm, ↓q_asgT_tp, ↓q_setAll_nil, ↓q_setAll_cons, ↓q_wT_non, ↓q_wT_bl, ↓q_wT_int, ↓q_wT_tup, ↓q_wT_lst, ↓q_wT_str, ↓q_wB_bl, ↓q_wInt_int, ↓q_bin_add, ↓q_bin_sub, ↓q_bin_mul, ↓q_bin_mod, ↓q_bin_fdiv, ↓q_bin_pow, ↓q_bin_adds, ↓q_bin_addt, ↓q_bin_addl, ↓q_neg_int, ↓q_cmp_lt, ↓q_cmp_le, ↓q_cmp_gt, ↓q_cmp_ge, ↓q_cmp_eq, ↓q_cmp_ne, ↓q_cmp_in, ↓q_cmp_nin, ↓q_cmp_is, ↓q_cmp_isn, ↓q_eq_int, ↓q_eq_str, ↓q_eq_tupn, ↓q_eq_ntup, ↓q_eq_lstn, ↓q_in_str, ↓q_ix_lst, ↓q_ix_tup, ↓q_ix_scr, ↓q_ix_str, ↓q_sl_tup, ↓q_sl_lst, ↓q_sl_scr, ↓q_sl_str, ↓q_rev_tup, ↓q_rev_lst, ↓q_rev_str, ↓q_len_lst, ↓q_len_tup, ↓q_len_scr, ↓q_len_str, ↓q_abs_int, ↓q_int_int, ↓q_int_bl, ↓q_str_int, ↓q_all_lst, ↓q_any_lst, ↓q_tup_lst, ↓q_tup_tup, ↓q_lst_tup, ↓q_lst_lst, ↓q_rep_any, ↓q_max_two, ↓q_min_two, ↓q_up_str, ↓q_split_str, ↓q_join_str, ↓q_strip_str, ↓q_index_lst, ↓q_app_lst, ↓q_ext_lst, ↓q_pop_lst, ↓q_ty_list, ↓q_ty_str, ↓q_ty_str2, ↓q_ty_str3, ↓q_ty_idx, ↓q_set_lst, ↓q_strO_str, ↓q_it_tup, ↓q_it_lst, ↓q_it_scr, ↓q_it_str, ↓q_zip_st, ↓q_zip_ll, ↓q_zip_tt, ↓q_enum_l, ↓q_enum_t, ↓q_isi_non, ↓q_isi_bl, ↓q_isi_int, ↓q_isi_str, ↓q_isi_tup, ↓q_isi_lst, ↓q_isi_dct, ↓q_at0, ↓q_at1, ↓q_at2, ↓q_at3, ↓q_ixn0, ↓q_ixn1, ↓q_ixn2, ↓q_ixn3, ↓q_ixn4, ↓q_ixn5, ↓q_ixn6, ↓q_ixn7, ↓q_lkn, ↓q_lkn0, ↓q_lk0, ↓q_lkS, ↓q_wipe_nil, ↓q_wipe_cons, ↓q_back_nil, ↓q_back_cons, ↓q_ty_int_int, ↓q_ty_int_str, ↓q_ty_int_bool, ↓q_ty_int_tuple, ↓q_ty_int_list, ↓q_ty_int_dict, ↓q_ty_str_int, ↓q_ty_str_str, ↓q_ty_str_bool, ↓q_ty_str_tuple, ↓q_ty_str_list, ↓q_ty_str_dict, ↓q_ty_bool_int, ↓q_ty_bool_str, ↓q_ty_bool_bool, ↓q_ty_bool_tuple, ↓q_ty_bool_list, ↓q_ty_bool_dict, ↓q_ty_tuple_int, ↓q_ty_tuple_str, ↓q_ty_tuple_bool, ↓q_ty_tuple_tuple, ↓q_ty_tuple_list, ↓q_ty_tuple_dict, ↓q_ty_list_int, ↓q_ty_list_str, ↓q_ty_list_bool, ↓q_ty_list_tuple, ↓q_ty_list_list, ↓q_ty_list_dict, ↓q_ty_dict_int, ↓q_ty_dict_str, ↓q_ty_dict_bool, ↓q_ty_dict_tuple, ↓q_ty_dict_list, ↓q_ty_dict_dict, ↓q_kvs, ↓q_putIo, ↓q_cl_nil, ↓q_cl_bor, ↓q_pio_nil, ↓q_pio_bor, ↓q_cl_var, ↓q_pio_var, ↓q_cl_non, ↓q_pio_non, ↓q_cl_bl, ↓q_pio_bl, ↓q_cl_int, ↓q_pio_int, ↓q_cl_str, ↓q_pio_str, ↓q_cl_nop, ↓q_pio_nop, ↓q_cl_glo, ↓q_pio_glo, ↓q_cl_tup, ↓q_pio_tup, ↓q_cl_lst, ↓q_pio_lst, ↓q_cl_dct, ↓q_pio_dct, ↓q_cl_bin, ↓q_pio_bin, ↓q_cl_neg, ↓q_pio_neg, ↓q_cl_cmp, ↓q_pio_cmp, ↓q_cl_chn, ↓q_pio_chn, ↓q_cl_nt, ↓q_pio_nt, ↓q_cl_an, ↓q_pio_an, ↓q_cl_orr, ↓q_pio_orr, ↓q_cl_ite, ↓q_pio_ite, ↓q_cl_ix, ↓q_pio_ix, ↓q_cl_sl, ↓q_pio_sl, ↓q_cl_rev, ↓q_pio_rev, ↓q_cl_cal, ↓q_pio_cal, ↓q_cl_b1, ↓q_pio_b1, ↓q_cl_b2, ↓q_pio_b2, ↓q_cl_isi, ↓q_pio_isi, ↓q_cl_m0, ↓q_pio_m0, ↓q_cl_m1, ↓q_pio_m1, ↓q_cl_m2, ↓q_pio_m2, ↓q_cl_mm0, ↓q_pio_mm0, ↓q_cl_mm1, ↓q_pio_mm1, ↓q_cl_cmpr, ↓q_pio_cmpr, ↓q_cl_gin, ↓q_pio_gin, ↓q_cl_gget, ↓q_pio_gget, q_fx_var, q_fx_non, q_fx_bl, q_fx_int, q_fx_str, q_fx_nop, q_fx_glo, q_fx_tup, q_fx_lst, q_fx_dct, q_fx_bin, q_fx_neg, q_fx_cmp, q_fx_chn, q_fx_nt, q_fx_an, q_fx_orr, q_fx_ite, q_fx_ix, q_fx_sl, q_fx_rev, q_fx_cal, q_fx_b1, q_fx_b2, q_fx_isi, q_fx_m0, q_fx_m1, q_fx_m2, q_fx_mm0, q_fx_mm1, q_fx_cmpr, q_fx_gin, q_fx_gget, q_fx_bor, q_fxs_nil, q_fxs_cons, q_lk_z, q_lk_s, q_wO_s, q_ixO_nop, q_ixO_var, q_ixO_non, q_ixO_bl, q_ixO_int, q_ixO_str, q_ixO_glo, q_ixO_tup, q_ixO_lst, q_ixO_dct, q_ixO_bin, q_ixO_neg, q_ixO_cmp, q_ixO_chn, q_ixO_nt, q_ixO_an, q_ixO_orr, q_ixO_ite, q_ixO_ix, q_ixO_sl, q_ixO_rev, q_ixO_cal, q_ixO_b1, q_ixO_b2, q_ixO_isi, q_ixO_m0, q_ixO_m1, q_ixO_m2, q_ixO_mm0, q_ixO_mm1, q_ixO_cmpr, q_ixO_gin, q_ixO_gget, q_asgT_nm, q_asgT_tp, q_setAll_nil, q_setAll_cons, q_wT_non, q_wT_bl, q_wT_int, q_wT_tup, q_wT_lst, q_wT_str, q_wB_bl, q_wInt_int, q_bin_add, q_bin_sub, q_bin_mul, q_bin_mod, q_bin_fdiv, q_bin_pow, q_bin_adds, q_bin_addt, q_bin_addl, q_neg_int, q_cmp_lt, q_cmp_le, q_cmp_gt, q_cmp_ge, q_cmp_eq, q_cmp_ne, q_cmp_in, q_cmp_nin, q_cmp_is, q_cmp_isn, q_eq_int, q_eq_str, q_eq_tupn, q_eq_ntup, q_eq_lstn, q_in_str, q_ix_lst, q_ix_tup, q_ix_scr, q_ix_str, q_sl_tup, q_sl_lst, q_sl_scr, q_sl_str, q_rev_tup, q_rev_lst, q_rev_str, q_len_lst, q_len_tup, q_len_scr, q_len_str, q_abs_int, q_int_int, q_int_bl, q_str_int, q_all_lst, q_any_lst, q_tup_lst, q_tup_tup, q_lst_tup, q_lst_lst, q_rep_any, q_max_two, q_min_two, q_up_str, q_split_str, q_join_str, q_strip_str, q_index_lst, q_app_lst, q_ext_lst, q_pop_lst, q_ty_list, q_ty_str, q_ty_str2, q_ty_str3, q_ty_idx, q_set_lst, q_strO_str, q_it_tup, q_it_lst, q_it_scr, q_it_str, q_zip_st, q_zip_ll, q_zip_tt, q_enum_l, q_enum_t, q_isi_non, q_isi_bl, q_isi_int, q_isi_str, q_isi_tup, q_isi_lst, q_isi_dct, q_at0, q_at1, q_at2, q_at3, q_ixn0, q_ixn1, q_ixn2, q_ixn3, q_ixn4, q_ixn5, q_ixn6, q_ixn7, q_lkn, q_lkn0, q_lk0, q_lkS, q_wipe_nil, q_wipe_cons, q_back_nil, q_back_cons, q_ty_int_int, q_ty_int_str, q_ty_int_bool, q_ty_int_tuple, q_ty_int_list, q_ty_int_dict, q_ty_str_int, q_ty_str_str, q_ty_str_bool, q_ty_str_tuple, q_ty_str_list, q_ty_str_dict, q_ty_bool_int, q_ty_bool_str, q_ty_bool_bool, q_ty_bool_tuple, q_ty_bool_list, q_ty_bool_dict, q_ty_tuple_int, q_ty_tuple_str, q_ty_tuple_bool, q_ty_tuple_tuple, q_ty_tuple_list, q_ty_tuple_dict, q_ty_list_int, q_ty_list_str, q_ty_list_bool, q_ty_list_tuple, q_ty_list_list, q_ty_list_dict, q_ty_dict_int, q_ty_dict_str, q_ty_dict_bool, q_ty_dict_tuple, q_ty_dict_list, q_ty_dict_dict, q_kvs, q_putIo, q_cl_nil, q_cl_bor, q_pio_nil, q_pio_bor, q_cl_var, q_pio_var, q_cl_non, q_pio_non, q_cl_bl, q_pio_bl, q_cl_int, q_pio_int, q_cl_str, q_pio_str, q_cl_nop, q_pio_nop, q_cl_glo, q_pio_glo, q_cl_tup, q_pio_tup, q_cl_lst, q_pio_lst, q_cl_dct, q_pio_dct, q_cl_bin, q_pio_bin, q_cl_neg, q_pio_neg, q_cl_cmp, q_pio_cmp, q_cl_chn, q_pio_chn, q_cl_nt, q_pio_nt, q_cl_an, q_pio_an, q_cl_orr, q_pio_orr, q_cl_ite, q_pio_ite, q_cl_ix, q_pio_ix, q_cl_sl, q_pio_sl, q_cl_rev, q_pio_rev, q_cl_cal, q_pio_cal, q_cl_b1, q_pio_b1, q_cl_b2, q_pio_b2, q_cl_isi, q_pio_isi, q_cl_m0, q_pio_m0, q_cl_m1, q_pio_m1, q_cl_m2, q_pio_m2, q_cl_mm0, q_pio_mm0, q_cl_mm1, q_pio_mm1, q_cl_cmpr, q_pio_cmpr, q_cl_gin, q_pio_gin, q_cl_gget, q_pio_gget, List.set_cons_zero, List.set_cons_succ, List.length_cons, List.length_nil, List.map_cons, List.map_nil, List.replicate_succ, List.replicate_zero, List.cons_append, List.nil_append, List.take_succ_cons, List.take_zero, true_and, and_true, Bool.not_true, Bool.not_false, if_true, Bool.false_eq_true, if_false, cond_true, cond_false, Option.isNone_some, Bool.or_true, Bool.true_or, Bool.or_false, Bool.false_or, Bool.and_true, Bool.true_and, Bool.and_false, Bool.false_and, Nat.reduceAdd, Nat.reduceSub, Nat.reduceLT, Nat.reduceLeDiff, Nat.zero_add, Int.reduceLT, Int.reduceLE, reduceCtorEq, decide_eq_true_eq, Nat.lt_add_one, Nat.zero_lt_succ, *])
/-! QP: comprehensions that change nothing; texts -/
section
variable {G : List D} {cf : Nat → List D → C} {ρ0 : PD.Env} {ds : List D} {e cd : Ex}
theorem wL_map {j : Nat} {Q : List D → PD.Env → Prop} (g : D → D) (hs : ∀ d ∈ ds, wE G cf e (ρ0.set j (some d)) (fun y ρ => y = g d ∧ ∃ u, ρ = ρ0.set j u) (fun _ _ _ => False))
    (fin : ∀ u, Q (ds.map g) (ρ0.set j u)) (hj : ∃ u, ρ0 = ρ0.set j u) : wL G cf (.bl true) e (.nm j) [j] ds ρ0 Q ⟨⟩ := by
  refine wL_inv (fun i ys ρ => ys = (ds.take i).map g ∧ ∃ u, ρ = ρ0.set j u) ⟨by simp, hj⟩ ?_ ?_
  · rintro i d ys ρ hd ⟨rfl, u, rfl⟩
    have hm := List.mem_of_getElem? hd
    have st := hs d hm
    simp only [q_wipe_cons, q_wipe_nil, List.set_set, q_asgT_nm, wE_bl, q_wT_bl, if_true]
    refine wR_imp st (fun y ρ h => ?_) fun _ _ _ z => z
    obtain ⟨rfl, h⟩ := h
    refine ⟨?_, h⟩
    rw [List.take_add_one, hd, List.map_append]
    rfl
  · rintro ys ρ ⟨rfl, u, rfl⟩
    rw [List.take_length]
    exact fin u
theorem wL_mapT {a b : Nat} (hab : a ≠ b) {xs ys : List D} {Q : List D → PD.Env → Prop} (g : D → D → D) (hs : ∀ x y, (x, y) ∈ xs.zip ys → wE G cf e ((ρ0.set a (some x)).set b (some y)) (fun z ρ => z = g x y ∧ ∃ u v, ρ = (ρ0.set a u).set b v) (fun _ _ _ => False))
    (fin : ∀ u v, Q ((xs.zip ys).map fun p => g p.1 p.2) ((ρ0.set a u).set b v)) (hj : ∃ u v, ρ0 = (ρ0.set a u).set b v) : wL G cf (.bl true) e (.tp [a, b]) [a, b] (pairD xs ys) ρ0 Q ⟨⟩ := by
  refine wL_inv (fun i zs ρ => zs = ((xs.zip ys).take i).map (fun p => g p.1 p.2) ∧ ∃ u v, ρ = (ρ0.set a u).set b v) ⟨by simp, hj⟩ ?_ ?_
  · rintro i d zs ρ hd ⟨rfl, u, v, rfl⟩
    unfold pairD at hd
    rw [List.getElem?_map] at hd
    cases hz : (xs.zip ys)[i]? with
    | none => rw [hz] at hd; cases hd
    | some p =>
      rw [hz] at hd
      cases hd
      have hm := List.mem_of_getElem? hz
      have st := hs p.1 p.2 hm
      have e1 : wipeE ((ρ0.set a u).set b v) [a, b] = ((ρ0.set a none).set b none) := by
        simp only [q_wipe_cons, q_wipe_nil, List.set_set]
        rw [List.set_comm _ _ (Ne.symm hab), List.set_set]
      rw [e1]
      rw [q_asgT_tp]
      refine ⟨rfl, ?_⟩
      have e2 : setAll ((ρ0.set a none).set b none) [a, b] [p.1, p.2] = (ρ0.set a (some p.1)).set b (some p.2) := by
        show ((((ρ0.set a none).set b none).set a (some p.1)).set b (some p.2)) = _
        rw [List.set_comm _ _ (Ne.symm hab), List.set_set, List.set_set]
      rw [e2]
      simp only [wE_bl, q_wT_bl, if_true]
      refine wR_imp st (fun y ρ h => ?_) fun _ _ _ z => z
      obtain ⟨rfl, h⟩ := h
      refine ⟨?_, h⟩
      rw [List.take_add_one, hz, List.map_append]
      rfl
  · rintro zs ρ ⟨rfl, u, v, rfl⟩
    rw [show (pairD xs ys).length = (xs.zip ys).length by unfold pairD; simp, List.take_length]
    exact fin u v
/-- with a test that may leave items out -/
theorem wL_filT {a b : Nat} (hab : a ≠ b) {xs ys : List D} {Q : List D → PD.Env → Prop} (c : D → D → Bool) (g : D → D → D)
    (hs : ∀ x y, (x, y) ∈ xs.zip ys → wE G cf cd ((ρ0.set a (some x)).set b (some y)) (fun k ρ => wT k fun t => t = c x y ∧ (if t = true then wE G cf e ρ (fun z ρ => z = g x y ∧ ∃ u v, ρ = (ρ0.set a u).set b v) (fun _ _ _ => False) else ∃ u v, ρ = (ρ0.set a u).set b v)) (fun _ _ _ => False))
    (fin : ∀ u v, Q (((xs.zip ys).filter fun p => c p.1 p.2).map fun p => g p.1 p.2) ((ρ0.set a u).set b v)) (hj : ∃ u v, ρ0 = (ρ0.set a u).set b v) : wL G cf cd e (.tp [a, b]) [a, b] (pairD xs ys) ρ0 Q ⟨⟩ := by
  refine wL_inv (fun i zs ρ => zs = (((xs.zip ys).take i).filter fun p => c p.1 p.2).map (fun p => g p.1 p.2) ∧ ∃ u v, ρ = (ρ0.set a u).set b v) ⟨by simp, hj⟩ ?_ ?_
  · rintro i d zs ρ hd ⟨rfl, u, v, rfl⟩
    unfold pairD at hd
    rw [List.getElem?_map] at hd
    cases hz : (xs.zip ys)[i]? with
    | none => rw [hz] at hd; cases hd
    | some p =>
      rw [hz] at hd
      cases hd
      have hm := List.mem_of_getElem? hz
      have st := hs p.1 p.2 hm
      have e1 : wipeE ((ρ0.set a u).set b v) [a, b] = ((ρ0.set a none).set b none) := by
        simp only [q_wipe_cons, q_wipe_nil, List.set_set]
        rw [List.set_comm _ _ (Ne.symm hab), List.set_set]
      rw [e1]
      rw [q_asgT_tp]
      refine ⟨rfl, ?_⟩
      have e2 : setAll ((ρ0.set a none).set b none) [a, b] [p.1, p.2] = (ρ0.set a (some p.1)).set b (some p.2) := by
        show ((((ρ0.set a none).set b none).set a (some p.1)).set b (some p.2)) = _
        rw [List.set_comm _ _ (Ne.symm hab), List.set_set, List.set_set]
      rw [e2]
      refine wR_imp st (fun k ρ h => ?_) fun _ _ _ z => z
      refine wO_imp h fun t h => ?_
      obtain ⟨rfl, h⟩ := h
      by_cases hc : c p.1 p.2 = true
      · rw [if_pos hc] at h ⊢
        refine wR_imp h (fun y ρ h => ?_) fun _ _ _ z => z
        obtain ⟨rfl, h⟩ := h
        refine ⟨?_, h⟩
        rw [List.take_add_one, hz, Option.toList_some, List.filter_append, List.map_append]
        simp [hc]
      · rw [if_neg hc] at h ⊢
        refine ⟨?_, h⟩
        rw [List.take_add_one, hz, Option.toList_some, List.filter_append, List.map_append]
        simp [hc]
  · rintro zs ρ ⟨rfl, u, v, rfl⟩
    rw [show (pairD xs ys).length = (xs.zip ys).length by unfold pairD; simp, List.take_length]
    exact fin u v
end
theorem blsD_map {α : Type} (f : α → Bool) : ∀ (L : List α), blsD (L.map fun x => .bl (f x)) = some (L.map f)
  | [] => rfl
  | s :: L => by
    rw [List.map_cons]
    show (blsD (L.map fun x => .bl (f x))).map (f s :: ·) = _
    rw [blsD_map f L]; rfl
theorem sub1_one (c : Nat) (z : Str) : sub1 ⟨#[c]⟩ z = decide (c ∈ z.cps.toList) := StrLaws.found_one z c
theorem eqv_str (a b : Str) : PyData.eqv (.str a) (.str b) = decide (a = b) := by
  simp only [PyData.eqv]
  exact Bool.beq_eq_decide_eq _ _
theorem plainL_strs (n : Nat) : ∀ (L : List Str), plainL n (L.map .str) = true
  | [] => by simp [plainL]
  | s :: L => by rw [List.map_cons, plainL, plainL_strs n L]; cases n <;> simp [plain]
theorem in_strs (s : Str) (L : List Str) : inD (.str s) (.tup (L.map .str)) = some (L.contains s) := by
  have h : inD (.str s) (.tup (L.map .str)) = if plain 60 (.str s) && plainL 59 (L.map .str) then some ((L.map D.str).any fun z => PyData.eqv (py z) (py (.str s))) else none := rfl
  rw [h, plainL_strs, show plain 60 (.str s) = true by simp [plain], Bool.and_self, if_pos rfl, List.any_map]
  congr 1
  rw [List.contains_eq_any_beq]
  congr 1
  funext z
  show PyData.eqv (.str z) (.str s) = (s == z)
  rw [eqv_str]
  by_cases h : z = s
  · subst h; simp
  · rw [decide_eq_false h]; exact (beq_eq_false_iff_ne.mpr (Ne.symm h)).symm
theorem in_strsL (s : Str) (L : List Str) : inD (.str s) (.lst (L.map .str)) = some (L.contains s) := by
  have h : inD (.str s) (.lst (L.map .str)) = if plain 60 (.str s) && plainL 59 (L.map .str) then some ((L.map D.str).any fun z => PyData.eqv (py z) (py (.str s))) else none := rfl
  rw [h, plainL_strs, show plain 60 (.str s) = true by simp [plain], Bool.and_self, if_pos rfl, List.any_map]
  congr 1
  rw [List.contains_eq_any_beq]
  congr 1
  funext z
  show PyData.eqv (.str z) (.str s) = (s == z)
  rw [eqv_str]
  by_cases h : z = s
  · subst h; simp
  · rw [decide_eq_false h]; exact (beq_eq_false_iff_ne.mpr (Ne.symm h)).symm
/-- nothing is left of a text stripped of its signs -/
theorem strip_nil (s z : Str) : decide (Txt.stripChars s z = ("" : Str)) = s.cps.toList.all fun c => decide (c ∈ z.cps.toList) := by
  have hc : ∀ c, z.cps.contains c = decide (c ∈ z.cps.toList) := fun c => by simp
  have e : Txt.stripChars s z = ("" : Str) ↔ ∀ c ∈ s.cps.toList, z.cps.contains c = true := by
    unfold Txt.stripChars
    rw [PyProof.Rows.stripBy_eq]
    obtain ⟨l1, l2, l3⟩ := lo_facts z.cps.contains s
    obtain ⟨g1, g2, g3, g4⟩ := hi_facts z.cps.contains s (stripLo z.cps.contains true s) l1
    constructor
    · intro h
      have h0 := congrArg PySem.Str.length h
      have h1 : (Builtin.Str.strSub s (stripLo z.cps.contains true s) (stripHi z.cps.contains true s (stripLo z.cps.contains true s))).length = 0 := by rw [h0]; decide
      simp only [Builtin.Str.strSub, PySem.Str.length, Array.size_extract] at h1
      have h2 : stripHi z.cps.contains true s (stripLo z.cps.contains true s) = stripLo z.cps.contains true s := by
        simp only [PySem.Str.length] at g2
        omega
      rcases l3 with l3 | l3
      · intro c hc
        obtain ⟨k, hk, e⟩ := List.getElem_of_mem hc
        have := l2 k (by rw [l3, str_size]; exact hk)
        rw [← getD_list, List.getD_eq_getElem?_getD, List.getElem?_eq_getElem hk, e] at this
        exact this
      · by_cases hlt : stripLo z.cps.contains true s < s.length
        · have := g3 (stripLo z.cps.contains true s) (by omega) hlt
          rw [l3] at this
          cases this
        · have l3 : stripLo z.cps.contains true s = s.length := by omega
          intro c hc
          obtain ⟨k, hk, e⟩ := List.getElem_of_mem hc
          have := l2 k (by rw [l3, str_size]; exact hk)
          rw [← getD_list, List.getD_eq_getElem?_getD, List.getElem?_eq_getElem hk, e] at this
          exact this
    · intro h
      have l4 : stripLo z.cps.contains true s = s.length := by
        rcases l3 with l3 | l3
        · exact l3
        · by_cases hlt : stripLo z.cps.contains true s < s.length
          · exfalso
            rw [← getD_list, List.getD_eq_getElem?_getD, List.getElem?_eq_getElem (by rw [← str_size]; exact hlt)] at l3
            have := h _ (List.getElem_mem (by rw [← str_size]; exact hlt))
            simp only [Option.getD_some] at l3
            rw [this] at l3
            cases l3
          · omega
      refine str_ext ?_
      rw [l4] at g1 ⊢
      have : (Builtin.Str.strSub s s.length (stripHi z.cps.contains true s s.length)).cps = #[] := by
        simp only [Builtin.Str.strSub]
        apply Array.eq_empty_of_size_eq_zero
        simp only [Array.size_extract, PySem.Str.length]
        omega
      rw [this]; rfl
  rw [Bool.eq_iff_iff, decide_eq_true_eq, e, List.all_eq_true]
  constructor
  · intro h c hc'
    rw [← hc]; exact h c hc'
  · intro h c hc'
    rw [hc]; exact h c hc'
end PD
end

section
set_option Elab.async false
set_option linter.all false
set_option maxRecDepth 100000
set_option maxHeartbeats 1000000
namespace PD
open PySem PySem.Spec PyProof.Rows L2
local macro_rules | `(tactic| walk_at "ev") => `(tactic| simp only [↓wE_var, ↓wE_bor, ↓wE_non, ↓wE_nop, ↓wE_bl, ↓wE_int, ↓wE_str, ↓wE_glo, ↓wE_tup, ↓wE_lst, ↓wE_dct, ↓wE_bin, ↓wE_neg, ↓wE_cmp, ↓wE_chn, ↓wE_nt, ↓wE_an, ↓wE_orr, ↓wE_ite, ↓wE_ix, ↓wE_sl, ↓wE_rev, ↓wE_cal, ↓wE_b1, ↓wE_b2, ↓wE_isi, ↓wE_m0, ↓wE_m1, ↓wE_mm0, ↓wE_mm1, ↓wE_cmpr, ↓wE_gin, ↓wE_gget, ↓wEs_nil, ↓wEs_cons, ↓wI_ex, ↓wI_rng1, ↓wI_rng2, ↓wI_zip, ↓wI_enum, ↓wS_asg, ↓wS_own, ↓wS_par, ↓wS_setix, ↓wS_expr, ↓wS_ite, ↓wS_whl, ↓wS_fr, ↓wS_ret, ↓wS_retN, ↓wS_retO, ↓wS_pass, ↓wS_brk, ↓wS_cnt, ↓wSs_nil, ↓wSs_cons, ↓q_fx_var, ↓q_fx_non, ↓q_fx_bl, ↓q_fx_int, ↓q_fx_str, ↓q_fx_nop, ↓q_fx_glo, ↓q_fx_tup, ↓q_fx_lst, ↓q_fx_dct, ↓q_fx_bin, ↓q_fx_neg, ↓q_fx_cmp, ↓q_fx_chn, ↓q_fx_nt, ↓q_fx_an, ↓q_fx_orr, ↓q_fx_ite, ↓q_fx_ix, ↓q_fx_sl, ↓q_fx_rev, ↓q_fx_cal, ↓q_fx_b1, ↓q_fx_b2, ↓q_fx_isi, ↓q_fx_m0, ↓q_fx_m1, ↓q_fx_m2, ↓q_fx_mm0, ↓q_fx_mm1, ↓q_fx_cmpr, ↓q_fx_gin, ↓q_fx_gget, ↓q_fx_bor, ↓q_fxs_nil, ↓q_fxs_cons, ↓q_lk_z, ↓q_lk_s, ↓q_wO_s, ↓q_ixO_nop, ↓q_ixO_var, ↓q_ixO_non, ↓q_ixO_bl, ↓q_ixO_int, ↓q_ixO_str, ↓q_ixO_glo, ↓q_ixO_tup, ↓q_ixO_lst, ↓q_ixO_dct, ↓q_ixO_bin, ↓q_ixO_neg, ↓q_ixO_cmp, ↓q_ixO_chn, ↓q_ixO_nt, ↓q_ixO_an, ↓q_ixO_orr, ↓q_ixO_ite, ↓q_ixO_ix, ↓q_ixO_sl, ↓q_ixO_rev, ↓q_ixO_cal, ↓q_ixO_b1, ↓q_ixO_b2, ↓q_ixO_isi, ↓q_ixO_m0, ↓q_ixO_m1, ↓q_ixO_m2, ↓q_ixO_mm0, ↓q_ixO_mm1, ↓q_ixO_cmpr, ↓q_ixO_gin, ↓q_ixO_gget, ↓q_asgT_nm, ↓q_asgT_tp, ↓q_setAll_nil, ↓q_setAll_cons, ↓q_wT_non, ↓q_wT_bl, ↓q_wT_int, ↓q_wT_tup, ↓q_wT_lst, ↓q_wT_str, ↓q_wB_bl, ↓q_wInt_int, ↓q_bin_add, ↓q_bin_sub, ↓q_bin_mul, ↓q_bin_mod, ↓q_bin_fdiv, ↓q_bin_pow, ↓q_bin_adds, ↓q_bin_addt, ↓q_bin_addl, ↓q_neg_int, ↓q_cmp_lt, ↓q_cmp_le, ↓q_cmp_gt, ↓q_cmp_ge, ↓q_cmp_eq, ↓q_cmp_ne, ↓q_cmp_in, ↓q_cmp_nin, ↓q_cmp_is, ↓q_cmp_isn, ↓q_eq_int, ↓q_eq_str, ↓q_eq_tupn, ↓q_eq_ntup, ↓q_eq_lstn, ↓q_in_str, ↓q_ix_lst, ↓q_ix_tup, ↓q_ix_scr, ↓q_ix_str, ↓q_sl_tup, ↓q_sl_lst, ↓q_sl_scr, ↓q_sl_str, ↓q_rev_tup, ↓q_rev_lst, ↓q_rev_str, ↓q_len_lst, ↓q_len_tup, ↓q_len_scr, ↓q_len_str, ↓q_abs_int, ↓q_int_int, ↓q_int_bl, ↓q_str_int, ↓q_all_lst, ↓q_any_lst, ↓q_tup_lst, ↓q_tup_tup, ↓q_lst_tup, ↓q_lst_lst, ↓q_rep_any, ↓q_max_two, ↓q_min_two, ↓q_up_str, ↓q_split_str, ↓q_join_str, ↓q_strip_str, ↓q_index_lst, ↓q_app_lst, ↓q_ext_lst, ↓q_pop_lst, ↓q_ty_list, ↓q_ty_str, ↓q_ty_str2, ↓q_ty_str3, ↓q_ty_idx, ↓q_set_lst, ↓q_strO_str, ↓q_it_tup, ↓q_it_lst, ↓q_it_scr, ↓q_it_str, ↓q_zip_st, ↓q_zip_ll, ↓q_zip_tt, ↓q_enum_l, ↓q_enum_t, ↓q_isi_non, ↓q_isi_bl, ↓q_isi_int, ↓q_isi_str, ↓q_isi_tup, ↓q_isi_lst, ↓q_isi_dct, ↓q_at0, ↓q_at1, ↓q_at2, ↓q_at3, ↓q_ixn0, ↓q_ixn1, ↓q_ixn2, ↓q_ixn3, ↓q_ixn4, ↓q_ixn5, ↓q_ixn6, ↓q_ixn7, ↓q_lkn, ↓q_lkn0, ↓q_lk0, ↓q_lkS, ↓q_wipe_nil, ↓q_wipe_cons, ↓q_back_nil, ↓q_back_cons, ↓q_ty_int_int, ↓q_ty_int_str, ↓q_ty_int_bool, ↓q_ty_int_tuple, ↓q_ty_int_list, ↓q_ty_int_dict, ↓q_ty_str_int, ↓q_ty_str_str, ↓q_ty_str_bool, ↓q_ty_str_tuple, ↓q_ty_str_list, ↓q_ty_str_dict, ↓q_ty_bool_int, ↓q_ty_bool_str, ↓q_ty_bool_bool, ↓q_ty_bool_tuple, ↓q_ty_bool_list, ↓q_ty_bool_dict, ↓q_ty_tuple_int, ↓q_ty_tuple_str, ↓q_ty_tuple_bool, ↓q_ty_tuple_tuple, ↓q_ty_tuple_list, ↓q_ty_tuple_dict, ↓q_ty_list_int, ↓q_ty_list_str, ↓q_ty_list_bool, ↓q_ty_list_tuple, ↓q_ty_list_list, ↓q_ty_list_dict, ↓q_ty_dict_int, ↓q_ty_dict_str, ↓q_ty_dict_bool, ↓q_ty_dict_tuple, ↓q_ty_dict_list, ↓q_ty_dict_dict, ↓q_kvs, ↓q_putIo, ↓q_cl_nil, ↓q_cl_bor, ↓q_pio_nil, ↓q_pio_bor, ↓q_cl_var, ↓q_pio_var, ↓q_cl_non, ↓q_pio_non, ↓q_cl_bl, ↓q_pio_bl, ↓q_cl_int, ↓q_pio_int, ↓q_cl_str, ↓q_pio_str, ↓q_cl_nop, ↓q_pio_nop, ↓q_cl_glo, ↓q_pio_glo, ↓q_cl_tup, ↓q_pio_tup, ↓q_cl_lst, ↓q_pio_lst, ↓q_cl_dct, ↓q_pio_dct, ↓q_cl_bin, ↓q_pio_bin, ↓q_cl_neg, ↓q_pio_neg, ↓q_cl_cmp, ↓q_pio_cmp, ↓q_cl_chn, ↓q_pio_chn, ↓q_cl_nt, ↓q_pio_nt, ↓q_cl_an, ↓q_pio_an, ↓q_cl_orr, ↓q_pio_orr, ↓q_cl_ite, ↓q_pio_ite, ↓q_cl_ix, ↓q_pio_ix, ↓q_cl_sl, ↓q_pio_sl, ↓q_cl_rev, ↓q_pio_rev, ↓q_cl_cal, ↓q_pio_cal, ↓q_cl_b1, ↓q_pio_b1, ↓q_cl_b2, ↓q_pio_b2, ↓q_cl_isi, ↓q_pio_isi, ↓q_cl_m0, ↓q_pio_m0, ↓q_cl_m1, ↓q_pio_m1, ↓q_cl_m2, ↓q_pio_m2, ↓q_cl_mm0, ↓q_pio_mm0, ↓q_cl_mm1, ↓q_pio_mm1, ↓q_cl_cmpr, ↓q_pio_cmpr, ↓q_cl_gin, ↓q_pio_gin, ↓q_cl_gget, ↓q_pio_gget, q_fx_var, q_fx_non, q_fx_bl, q_fx_int, q_fx_str, q_fx_nop, q_fx_glo, q_fx_tup, q_fx_lst, q_fx_dct, q_fx_bin, q_fx_neg, q_fx_cmp, q_fx_chn, q_fx_nt, q_fx_an, q_fx_orr, q_fx_ite, q_fx_ix, q_fx_sl, q_fx_rev, q_fx_cal, q_fx_b1, q_fx_b2, q_fx_isi, q_fx_m0, q_fx_m1, q_fx_m2, q_fx_mm0, q_fx_mm1, q_fx_cmpr, q_fx_gin, q_fx_gget, q_fx_bor, q_fxs_nil, q_fxs_cons, q_lk_z, q_lk_s, q_wO_s, q_ixO_nop, q_ixO_var, q_ixO_non, q_ixO_bl, q_ixO_int, q_ixO_str, q_ixO_glo, q_ixO_tup, q_ixO_lst, q_ixO_dct, q_ixO_bin, q_ixO_neg, q_ixO_cmp, q_ixO_chn, q_ixO_nt, q_ixO_an, q_ixO_orr, q_ixO_ite, q_ixO_ix, q_ixO_sl, q_ixO_rev, q_ixO_cal, q_ixO_b1, q_ixO_b2, q_ixO_isi, q_ixO_m0, q_ixO_m1, q_ixO_m2, q_ixO_mm0, q_ixO_mm1, q_ixO_cmpr, q_ixO_gin, q_ixO_gget, q_asgT_nm, q_asgT_tp, q_setAll_nil, q_setAll_cons, q_wT_non, q_wT_bl, q_wT_int, q_wT_tup, q_wT_lst, q_wT_str, q_wB_bl, q_wInt_int, q_bin_add, q_bin_sub, q_bin_mul, q_bin_mod, q_bin_fdiv, q_bin_pow, q_bin_adds, q_bin_addt, q_bin_addl, q_neg_int, q_cmp_lt, q_cmp_le, q_cmp_gt, q_cmp_ge, q_cmp_eq, q_cmp_ne, q_cmp_in, q_cmp_nin, q_cmp_is, q_cmp_isn, q_eq_int, q_eq_str, q_eq_tupn, q_eq_ntup, q_eq_lstn, q_in_str, q_ix_lst, q_ix_tup, q_ix_scr, q_ix_str, q_sl_tup, q_sl_lst, q_sl_scr, q_sl_str, q_rev_tup, q_rev_lst, q_rev_str, q_len_lst, q_len_tup, q_len_scr, q_len_str, q_abs_int, q_int_int, q_int_bl, q_str_int, q_all_lst, q_any_lst, q_tup_lst, q_tup_tup, q_lst_tup, q_lst_lst, q_rep_any, q_max_two, q_min_two, q_up_str, q_split_str, q_join_str, q_strip_str, q_index_lst, q_app_lst, q_ext_lst, q_pop_lst, q_ty_list, q_ty_str, q_ty_str2, q_ty_str3, q_ty_idx, q_set_lst, q_strO_str, q_it_tup, q_it_lst, q_it_scr, q_it_str, q_zip_st, q_zip_ll, q_zip_tt, q_enum_l, q_enum_t, q_isi_non, q_isi_bl, q_isi_int, q_isi_str, q_isi_tup, q_isi_lst, q_isi_dct, q_at0, q_at1, q_at2, q_at3, q_ixn0, q_ixn1, q_ixn2, q_ixn3, q_ixn4, q_ixn5, q_ixn6, q_ixn7, q_lkn, q_lkn0, q_lk0, q_lkS, q_wipe_nil, q_wipe_cons, q_back_nil, q_back_cons, q_ty_int_int, q_ty_int_str, q_ty_int_bool, q_ty_int_tuple, q_ty_int_list, q_ty_int_dict, q_ty_str_int, q_ty_str_str, q_ty_str_bool, q_ty_str_tuple, q_ty_str_list, q_ty_str_dict, q_ty_bool_int, q_ty_bool_str, q_ty_bool_bool, q_ty_bool_tuple, q_ty_bool_list, q_ty_bool_dict, q_ty_tuple_int, q_ty_tuple_str, q_ty_tuple_bool, q_ty_tuple_tuple, q_ty_tuple_list, q_ty_tuple_dict, q_ty_list_int, q_ty_list_str, q_ty_list_bool, q_ty_list_tuple, q_ty_list_list, q_ty_list_dict, q_ty_dict_int, q_ty_dict_str, q_ty_dict_bool, q_ty_dict_tuple, q_ty_dict_list, q_ty_dict_dict, q_kvs, q_putIo, q_cl_nil, q_cl_bor, q_pio_nil, q_pio_bor, q_cl_var, q_pio_var, q_cl_non, q_pio_non, q_cl_bl, q_pio_bl, q_cl_int, q_pio_int, q_cl_str, q_pio_str, q_cl_nop, q_pio_nop, q_cl_glo, q_pio_glo, q_cl_tup, q_pio_tup, q_cl_lst, q_pio_lst, q_cl_dct, q_pio_dct, q_cl_bin, q_pio_bin, q_cl_neg, q_pio_neg, q_cl_cmp, q_pio_cmp, q_cl_chn, q_pio_chn, q_cl_nt, q_pio_nt, q_cl_an, q_pio_an, q_cl_orr, q_pio_orr, q_cl_ite, q_pio_ite, q_cl_ix, q_pio_ix, q_cl_sl, q_pio_sl, q_cl_rev, q_pio_rev, q_cl_cal, q_pio_cal, q_cl_b1, q_pio_b1, q_cl_b2, q_pio_b2, q_cl_isi, q_pio_isi, q_cl_m0, q_pio_m0, q_cl_m1, q_pio_m1, q_cl_m2, q_pio_m2, q_cl_mm0, q_pio_mm0, q_cl_mm1, q_pio_mm1, q_cl_cmpr, q_pio_cmpr, q_cl_gin, q_pio_gin, q_cl_gget, q_pio_gget, List.set_cons_zero, List.set_cons_succ, List.length_cons, List.length_nil, List.map_cons, List.map_nil, List.replicate_succ, List.replicate_zero, List.cons_append, List.nil_append, List.take_succ_cons, List.take_zero, true_and, and_true, Bool.not_true, Bool.not_false, if_true, Bool.false_eq_true, if_false, cond_true, cond_false, Option.isNone_some, Bool.or_true, Bool.true_or, Bool.or_false, Bool.false_or, Bool.and_true, Bool.true_and, Bool.and_false, Bool.false_and, Nat.reduceAdd, Nat.reduceSub, Nat.reduceLT, Nat.reduceLeDiff, Nat.zero_add, Int.reduceLT, Int.reduceLE, reduceCtorEq, decide_eq_true_eq, Nat.lt_add_one, Nat.zero_lt_succ, *])
/-! QE: names, numbers, ways: the program's looks and the laws' own -/
def vis (d : D) : Bool := match d with
  | .fz _ => false
  | .scr _ => false
  | .obj _ _ => false
  | .str s => fits s
  | _ => true
theorem Gd.vis {W n : Nat} {d : D} (h : Gd W n d) (hW : W ≤ 1000000) : PD.vis d = true := by
  have p := h.p
  have w := h.w
  cases d with
  | fz _ => cases n <;> simp [pln] at p
  | scr _ => cases n <;> simp [pln] at p
  | obj _ _ => cases n <;> simp [pln] at p
  | str s =>
    rw [wt] at w
    exact fits_of (by rw [← str_size]; omega)
  | _ => rfl
theorem vis_str {s : Str} (h : vis (.str s) = true) : fits s = true := h
def nmD (d : D) : Bool := match d with
  | .str s => isNm s
  | _ => false
def blD (d : D) (l : Int) : Bool := match d with
  | .int i => decide (0 ≤ i) && decide (i < l)
  | _ => false
def wayD (d : D) : Bool := match d with
  | .str s => ([("a" : Str), "b", "c"] : List Str).contains s
  | _ => false
def wysS (s : Str) : Bool := decide (s.cps.toList.length = 3) && s.cps.toList.all fun c => decide (c ∈ ("abc" : Str).cps.toList)
def waysD (d : D) : Bool := match d with
  | .str s => wysS s
  | _ => false
/-- an item of a kind -/
def partB (c : Nat) (d : D) : Bool := if c = 97 ∨ c = 110 then nmD d else if c = 101 then blD d 3 else if c = 105 then blD d 4 else if c = 119 then wayD d else waysD d
abbrev LET : Str := "abcdefghijklmnopqrstuvwxyz"
theorem mem_LET (c : Nat) : decide (c ∈ LET.cps.toList) = (decide (97 ≤ c) && decide (c ≤ 122)) := by
  have e : LET.cps.toList = (List.range 26).map (97 + ·) := by decide +kernel
  rw [e]
  by_cases h : 97 ≤ c ∧ c ≤ 122
  · rw [decide_eq_true h.1, decide_eq_true h.2]
    exact decide_eq_true (List.mem_map.mpr ⟨c - 97, List.mem_range.mpr (by omega), by omega⟩)
  · have : ¬ c ∈ (List.range 26).map (97 + ·) := fun q => by
      obtain ⟨k, hk, e⟩ := List.mem_map.mp q
      have := List.mem_range.mp hk
      exact h (by omega)
    rw [decide_eq_false this]
    by_cases h1 : 97 ≤ c
    · rw [decide_eq_true h1, decide_eq_false (by omega)]; rfl
    · rw [decide_eq_false h1]; rfl
theorem isNm_eq (s : Str) : isNm s = (decide (1 ≤ s.length) && decide (s.length ≤ 8) && s.cps.toList.all fun c => decide (c ∈ LET.cps.toList)) := by
  unfold isNm
  rw [str_size]
  congr 1
  congr 1
  funext c
  exact (mem_LET c).symm
theorem all_id (L : List Nat) (p : Nat → Bool) : (L.map p).all id = L.all p := by
  rw [List.all_map]; rfl
section
variable {G : List D} {fns : List Fn} {wf n f : Nat} {Q : D → PD.Env → Prop} {X : XQ} {d : D} {g : Nat}
/-- is_name -/
def isNameFn (g : Nat) : Fn := ⟨1, 2, [false, false], false,
      (.cons (.ret (.an (.isi (.var 0) .str) (.an (.chn .le .le (.int 1) (.b1 .len (.var 0)) (.int 8)) (.b1 .all (.cmpr (.cmp .isin (.var 1) (.glo g)) (.nm 1) [1] (.ex (.var 0)) (.bl true))))))
      .nil)⟩
theorem isName_w (hF : fns[f]? = some (isNameFn g)) (hG : G[g]? = some (.str LET)) (hn : 1 ≤ n) (hd : vis d = true) (k : ∀ io, Q (.bl (nmD d)) io) : wC (callF G fns wf n f [d]) Q X := by
  refine wC_callF hF hn rfl ?_
  unfold isNameFn
  cases d with
  | str s =>
    have hf := vis_str hd
    walk_at "ev"
    have hl : s.cps.toList.length ≤ sizeLine := by
      rw [← str_size]
      exact of_decide_eq_true hf
    have hc : (charsD s).length = s.cps.toList.length := by simp [charsD]
    have hs : s.length = s.cps.toList.length := str_size s
    split
    · split
      · rename_i h1 h2
        refine ⟨fitn_of (by rw [hc, ← hs]; omega), ?_⟩
        refine wL_map (fun d => .bl (match d with | .str x => sub1 x LET | _ => false)) (fun d hd => ?_) (fun u => ?_) ⟨none, rfl⟩
        · obtain ⟨c, hc', rfl⟩ := List.mem_map.mp hd
          walk_at "ev"
          exact ⟨_, rfl⟩
        · have e : (charsD s).map (fun d => D.bl (match d with | .str x => sub1 x LET | _ => false)) = s.cps.toList.map fun c => .bl (decide (c ∈ LET.cps.toList)) := by
            unfold charsD
            rw [List.map_map]
            refine List.map_congr_left fun c _ => ?_
            show D.bl (sub1 ⟨#[c]⟩ LET) = _
            rw [sub1_one]
          rw [e]
          have eb := blsD_map (fun c => decide (c ∈ LET.cps.toList)) s.cps.toList
          walk_at "ev"
          have en := isNm_eq s
          rw [decide_eq_true (show 1 ≤ s.length by omega), decide_eq_true (show s.length ≤ 8 by omega)] at en
          rw [all_id]
          simp only [Bool.true_and] at en
          rw [← en]
          exact k _
      · rename_i h1 h2
        have en := isNm_eq s
        rw [decide_eq_false (show ¬ s.length ≤ 8 by omega), Bool.and_false, Bool.false_and] at en
        rw [decide_eq_false h2]
        have := k [some (.str s)]
        rw [show nmD (.str s) = false from en] at this
        exact this
    · rename_i h1
      have en := isNm_eq s
      rw [decide_eq_false (show ¬ 1 ≤ s.length by omega), Bool.false_and, Bool.false_and] at en
      have := k [some (.str s)]
      rw [show nmD (.str s) = false from en] at this
      exact this
  | fz _ => cases hd
  | scr _ => cases hd
  | obj _ _ => cases hd
  | _ => walk_at "ev" <;> exact k _
/-- is_below -/
def isBelowFn : Fn := ⟨2, 2, [false, false], false,
      (.cons (.ret (.an (.isi (.var 0) .int) (.an (.nt (.isi (.var 0) .bool)) (.chn .le .lt (.int 0) (.var 0) (.var 1)))))
      .nil)⟩
theorem isBelow_w {l : Int} (hF : fns[f]? = some isBelowFn) (hn : 1 ≤ n) (hd : vis d = true) (k : ∀ io, Q (.bl (blD d l)) io) : wC (callF G fns wf n f [d, .int l]) Q X := by
  refine wC_callF hF hn rfl ?_
  unfold isBelowFn
  cases d with
  | int i =>
    walk_at "ev"
    have kk := k [some (.int i), some (.int l)]
    rw [show blD (.int i) l = (decide (0 ≤ i) && decide (i < l)) from rfl] at kk
    split
    · rename_i h
      rw [decide_eq_true h, Bool.true_and] at kk
      exact kk
    · rename_i h
      rw [decide_eq_false h, Bool.false_and] at kk
      exact kk
  | fz _ => cases hd
  | scr _ => cases hd
  | obj _ _ => cases hd
  | _ => walk_at "ev" <;> exact k _
/-- is_evening -/
def isEveFn (j : Nat) : Fn := ⟨1, 1, [false], false,
      (.cons (.ret (.cal j (.cons (.var 0) (.cons (.int 3) .nil))))
      .nil)⟩
theorem isEve_w {j : Nat} (hF : fns[f]? = some (isEveFn j)) (hB : fns[j]? = some isBelowFn) (hn : 2 ≤ n) (hd : vis d = true) (k : ∀ io, Q (.bl (blD d 3)) io) : wC (callF G fns wf n f [d]) Q X := by
  refine wC_callF hF (by omega) rfl ?_
  unfold isEveFn
  walk_at "ev"
  refine isBelow_w hB (by omega) hd fun io => ?_
  walk_at "ev"
/-- is_way -/
def isWayFn : Fn := ⟨1, 1, [false], false,
      (.cons (.ret (.an (.isi (.var 0) .str) (.cmp .isin (.var 0) (.tup (.cons (.str "a") (.cons (.str "b") (.cons (.str "c") .nil)))))))
      .nil)⟩
theorem isWay_w (hF : fns[f]? = some isWayFn) (hn : 1 ≤ n) (hd : vis d = true) (k : ∀ io, Q (.bl (wayD d)) io) : wC (callF G fns wf n f [d]) Q X := by
  refine wC_callF hF hn rfl ?_
  unfold isWayFn
  cases d with
  | str s =>
    have := in_strs s ["a", "b", "c"]
    simp only [List.map_cons, List.map_nil] at this
    walk_at "ev"
    exact ⟨fitn_of (by decide), k _⟩
  | fz _ => cases hd
  | scr _ => cases hd
  | obj _ _ => cases hd
  | _ => walk_at "ev" <;> exact k _
/-- is_ways -/
def isWaysFn (g : Nat) : Fn := ⟨1, 2, [false, false], false,
      (.cons (.ret (.an (.isi (.var 0) .str) (.an (.cmp .eq (.b1 .len (.var 0)) (.int 3)) (.b1 .all (.cmpr (.cmp .isin (.var 1) (.glo g)) (.nm 1) [1] (.ex (.var 0)) (.bl true))))))
      .nil)⟩
theorem isWays_w (hF : fns[f]? = some (isWaysFn g)) (hG : G[g]? = some (.str "abc")) (hn : 1 ≤ n) (hd : vis d = true) (k : ∀ io, Q (.bl (waysD d)) io) : wC (callF G fns wf n f [d]) Q X := by
  refine wC_callF hF hn rfl ?_
  unfold isWaysFn
  cases d with
  | str s =>
    have hf := vis_str hd
    have hs : s.length = s.cps.toList.length := str_size s
    have hc : (charsD s).length = s.cps.toList.length := by simp [charsD]
    walk_at "ev"
    split
    · rename_i h1
      have h1 : s.cps.toList.length = 3 := by omega
      refine ⟨fitn_of (by omega), ?_⟩
      refine wL_map (fun d => .bl (match d with | .str x => sub1 x "abc" | _ => false)) (fun d hd => ?_) (fun u => ?_) ⟨none, rfl⟩
      · obtain ⟨c, hc', rfl⟩ := List.mem_map.mp hd
        walk_at "ev"
        exact ⟨_, rfl⟩
      · have e : (charsD s).map (fun d => D.bl (match d with | .str x => sub1 x "abc" | _ => false)) = s.cps.toList.map fun c => .bl (decide (c ∈ ("abc" : Str).cps.toList)) := by
          unfold charsD
          rw [List.map_map]
          refine List.map_congr_left fun c _ => ?_
          show D.bl (sub1 ⟨#[c]⟩ "abc") = _
          rw [sub1_one]
        rw [e]
        have eb := blsD_map (fun c => decide (c ∈ ("abc" : Str).cps.toList)) s.cps.toList
        walk_at "ev"
        rw [all_id]
        have := k [some (.str s)]
        rw [show waysD (.str s) = (decide (s.cps.toList.length = 3) && s.cps.toList.all fun c => decide (c ∈ ("abc" : Str).cps.toList)) from rfl, decide_eq_true h1, Bool.true_and] at this
        exact this
    · rename_i h1
      have := k [some (.str s)]
      rw [show waysD (.str s) = (decide (s.cps.toList.length = 3) && s.cps.toList.all fun c => decide (c ∈ ("abc" : Str).cps.toList)) from rfl, decide_eq_false (show ¬ s.cps.toList.length = 3 by omega), Bool.false_and] at this
      rw [decide_eq_false h1]
      exact this
  | fz _ => cases hd
  | scr _ => cases hd
  | obj _ _ => cases hd
  | _ => walk_at "ev" <;> exact k _
/-- is_part -/
def isPartFn (jN jE jB jW jS : Nat) : Fn := ⟨2, 2, [false, false], false,
      (.cons (.ite (.cmp .isin (.var 0) (.str "an"))
      (.cons (.ret (.cal jN (.cons (.var 1) .nil)))
      .nil)
      .nil)
      (.cons (.ite (.cmp .eq (.var 0) (.str "e"))
      (.cons (.ret (.cal jE (.cons (.var 1) .nil)))
      .nil)
      .nil)
      (.cons (.ite (.cmp .eq (.var 0) (.str "i"))
      (.cons (.ret (.cal jB (.cons (.var 1) (.cons (.int 4) .nil))))
      .nil)
      .nil)
      (.cons (.ret (.ite (.cmp .eq (.var 0) (.str "w")) (.cal jW (.cons (.var 1) .nil)) (.cal jS (.cons (.var 1) .nil))))
      .nil))))⟩
theorem one_eq (c : Nat) (k : Nat) (s : Str) (h : s.cps.toList = [k]) : decide ((⟨#[c]⟩ : Str) = s) = decide (c = k) := by
  by_cases e : c = k
  · subst e
    rw [decide_eq_true rfl]
    exact decide_eq_true (str_ext h.symm)
  · rw [decide_eq_false e]
    refine decide_eq_false fun z => e ?_
    have := congrArg (fun s : Str => s.cps.toList) z
    simp only [h] at this
    simpa using this
theorem isPart_w {jN jE jB jW jS g g2 c : Nat} (hF : fns[f]? = some (isPartFn jN jE jB jW jS)) (hN : fns[jN]? = some (isNameFn g)) (hG : G[g]? = some (.str LET)) (hE : fns[jE]? = some (isEveFn jB)) (hB : fns[jB]? = some isBelowFn) (hW : fns[jW]? = some isWayFn) (hS : fns[jS]? = some (isWaysFn g2)) (hG2 : G[g2]? = some (.str "abc"))
    (hn : 3 ≤ n) (hd : vis d = true) (k : ∀ io, Q (.bl (partB c d)) io) : wC (callF G fns wf n f [.str ⟨#[c]⟩, d]) Q X := by
  refine wC_callF hF (by omega) rfl ?_
  unfold isPartFn
  have e1 := sub1_one c ("an" : Str)
  have e2 := one_eq c 101 "e" (by decide +kernel)
  have e3 := one_eq c 105 "i" (by decide +kernel)
  have e4 := one_eq c 119 "w" (by decide +kernel)
  have m : (c ∈ ("an" : Str).cps.toList) ↔ (c = 97 ∨ c = 110) := by
    have : ("an" : Str).cps.toList = [97, 110] := by decide +kernel
    rw [this]; simp
  walk_at "ev"
  by_cases c1 : c = 97 ∨ c = 110
  · rw [if_pos c1]
    refine isName_w hN hG (by omega) hd fun io => ?_
    walk_at "ev"
    have := k [some (.str ⟨#[c]⟩), some d]
    rw [show partB c d = nmD d from if_pos c1] at this
    exact this
  rw [if_neg c1]
  have p1 : partB c d = if c = 101 then blD d 3 else if c = 105 then blD d 4 else if c = 119 then wayD d else waysD d := if_neg c1
  by_cases c2 : c = 101
  · rw [if_pos c2] at p1 ⊢
    refine isEve_w hE hB (by omega) hd fun io => ?_
    have kk := k
    rw [p1] at kk
    walk_at "ev"
    all_goals exact kk _
  rw [if_neg c2] at p1 ⊢
  by_cases c3 : c = 105
  · rw [if_pos c3] at p1 ⊢
    refine isBelow_w hB (by omega) hd fun io => ?_
    have kk := k
    rw [p1] at kk
    walk_at "ev"
    all_goals exact kk _
  rw [if_neg c3] at p1 ⊢
  by_cases c4 : c = 119
  · rw [if_pos c4] at p1 ⊢
    refine isWay_w hW (by omega) hd fun io => ?_
    have kk := k
    rw [p1] at kk
    walk_at "ev"
    all_goals exact kk _
  · rw [if_neg c4] at p1 ⊢
    refine isWays_w hS hG2 (by omega) hd fun io => ?_
    have kk := k
    rw [p1] at kk
    walk_at "ev"
    all_goals exact kk _
end
end PD
end

section
set_option Elab.async false
set_option linter.all false
set_option maxRecDepth 100000
set_option maxHeartbeats 1000000
namespace PD
open PySem PySem.Spec PyProof.Rows L2
local macro_rules | `(tactic| walk_at "ev") => `(tactic| simp only [↓wE_var, ↓wE_bor, ↓wE_non, ↓wE_nop, ↓wE_bl, ↓wE_int, ↓wE_str, ↓wE_glo, ↓wE_tup, ↓wE_lst, ↓wE_dct, ↓wE_bin, ↓wE_neg, ↓wE_cmp, ↓wE_chn, ↓wE_nt, ↓wE_an, ↓wE_orr, ↓wE_ite, ↓wE_ix, ↓wE_sl, ↓wE_rev, ↓wE_cal, ↓wE_b1, ↓wE_b2, ↓wE_isi, ↓wE_m0, ↓wE_m1, ↓wE_mm0, ↓wE_mm1, ↓wE_cmpr, ↓wE_gin, ↓wE_gget, ↓wEs_nil, ↓wEs_cons, ↓wI_ex, ↓wI_rng1, ↓wI_rng2, ↓wI_zip, ↓wI_enum, ↓wS_asg, ↓wS_own, ↓wS_par, ↓wS_setix, ↓wS_expr, ↓wS_ite, ↓wS_whl, ↓wS_fr, ↓wS_ret, ↓wS_retN, ↓wS_retO, ↓wS_pass, ↓wS_brk, ↓wS_cnt, ↓wSs_nil, ↓wSs_cons, ↓q_fx_var, ↓q_fx_non, ↓q_fx_bl, ↓q_fx_int, ↓q_fx_str, ↓q_fx_nop, ↓q_fx_glo, ↓q_fx_tup, ↓q_fx_lst, ↓q_fx_dct, ↓q_fx_bin, ↓q_fx_neg, ↓q_fx_cmp, ↓q_fx_chn, ↓q_fx_nt, ↓q_fx_an, ↓q_fx_orr, ↓q_fx_ite, ↓q_fx_ix, ↓q_fx_sl, ↓q_fx_rev, ↓q_fx_cal, ↓q_fx_b1, ↓q_fx_b2, ↓q_fx_isi, ↓q_fx_m0, ↓q_fx_m1, ↓q_fx_m2, ↓q_fx_mm0, ↓q_fx_mm1, ↓q_fx_cmpr, ↓q_fx_gin, ↓q_fx_gget, ↓q_fx_bor, ↓q_fxs_nil, ↓q_fxs_cons, ↓q_lk_z, ↓q_lk_s, ↓q_wO_s, ↓q_ixO_nop, ↓q_ixO_var, ↓q_ixO_non, ↓q_ixO_bl, ↓q_ixO_int, ↓q_ixO_str, ↓q_ixO_glo, ↓q_ixO_tup, ↓q_ixO_lst, ↓q_ixO_dct, ↓q_ixO_bin, ↓q_ixO_neg, ↓q_ixO_cmp, ↓q_ixO_chn, ↓q_ixO_nt, ↓q_ixO_an, ↓q_ixO_orr, ↓q_ixO_ite, ↓q_ixO_ix, ↓q_ixO_sl, ↓q_ixO_rev, ↓q_ixO_cal, ↓q_ixO_b1, ↓q_ixO_b2, ↓q_ixO_isi, ↓q_ixO_m0, ↓q_ixO_m1, ↓q_ixO_m2, ↓q_ixO_mm0, ↓q_ixO_mm1, ↓q_ixO_cmpr, ↓q_ixO_gin, ↓q_ixO_gget, ↓q_asgT_nm, ↓q_asgT_tp, ↓q_setAll_nil, ↓q_setAll_cons, ↓q_wT_non, ↓q_wT_bl, ↓q_wT_int, ↓q_wT_tup, ↓q_wT_lst, ↓q_wT_str, ↓q_wB_bl, ↓q_wInt_int, ↓q_bin_add, ↓q_bin_sub, ↓q_bin_mul, ↓q_bin_mod, ↓q_bin_fdiv, ↓q_bin_pow, ↓q_bin_adds, ↓q_bin_addt, ↓q_bin_addl, ↓q_neg_int, ↓q_cmp_lt, ↓q_cmp_le, ↓q_cmp_gt, ↓q_cmp_ge, ↓q_cmp_eq, ↓q_cmp_ne, ↓q_cmp_in, ↓q_cmp_nin, ↓q_cmp_is, ↓q_cmp_isn, ↓q_eq_int, ↓q_eq_str, ↓q_eq_tupn, ↓q_eq_ntup, ↓q_eq_lstn, ↓q_in_str, ↓q_ix_lst, ↓q_ix_tup, ↓q_ix_scr, ↓q_ix_str, ↓q_sl_tup, ↓q_sl_lst, ↓q_sl_scr, ↓q_sl_str, ↓q_rev_tup, ↓q_rev_lst, ↓q_rev_str, ↓q_len_lst, ↓q_len_tup, ↓q_len_scr, ↓q_len_str, ↓q_abs_int, ↓q_int_int, ↓q_int_bl, ↓q_str_int, ↓q_all_lst, ↓q_any_lst, ↓q_tup_lst, ↓q_tup_tup, ↓q_lst_tup, ↓q_lst_lst, ↓q_rep_any, ↓q_max_two, ↓q_min_two, ↓q_up_str, ↓q_split_str, ↓q_join_str, ↓q_strip_str, ↓q_index_lst, ↓q_app_lst, ↓q_ext_lst, ↓q_pop_lst, ↓q_ty_list, ↓q_ty_str, ↓q_ty_str2, ↓q_ty_str3, ↓q_ty_idx, ↓q_set_lst, ↓q_strO_str, ↓q_it_tup, ↓q_it_lst, ↓q_it_scr, ↓q_it_str, ↓q_zip_st, ↓q_zip_ll, ↓q_zip_tt, ↓q_enum_l, ↓q_enum_t, ↓q_isi_non, ↓q_isi_bl, ↓q_isi_int, ↓q_isi_str, ↓q_isi_tup, ↓q_isi_lst, ↓q_isi_dct, ↓q_at0, ↓q_at1, ↓q_at2, ↓q_at3, ↓q_ixn0, ↓q_ixn1, ↓q_ixn2, ↓q_ixn3, ↓q_ixn4, ↓q_ixn5, ↓q_ixn6, ↓q_ixn7, ↓q_lkn, ↓q_lkn0, ↓q_lk0, ↓q_lkS, ↓q_wipe_nil, ↓q_wipe_cons, ↓q_back_nil, ↓q_back_cons, ↓q_ty_int_int, ↓q_ty_int_str, ↓q_ty_int_bool, ↓q_ty_int_tuple, ↓q_ty_int_list, ↓q_ty_int_dict, ↓q_ty_str_int, ↓q_ty_str_str, ↓q_ty_str_bool, ↓q_ty_str_tuple, ↓q_ty_str_list, ↓q_ty_str_dict, ↓q_ty_bool_int, ↓q_ty_bool_str, ↓q_ty_bool_bool, ↓q_ty_bool_tuple, ↓q_ty_bool_list, ↓q_ty_bool_dict, ↓q_ty_tuple_int, ↓q_ty_tuple_str, ↓q_ty_tuple_bool, ↓q_ty_tuple_tuple, ↓q_ty_tuple_list, ↓q_ty_tuple_dict, ↓q_ty_list_int, ↓q_ty_list_str, ↓q_ty_list_bool, ↓q_ty_list_tuple, ↓q_ty_list_list, ↓q_ty_list_dict, ↓q_ty_dict_int, ↓q_ty_dict_str, ↓q_ty_dict_bool, ↓q_ty_dict_tuple, ↓q_ty_dict_list, ↓q_ty_dict_dict, ↓q_kvs, ↓q_fit0, ↓q_fit1, ↓q_fit2, ↓q_fit3, ↓q_fit4, ↓q_fit5, ↓q_fit6, ↓q_fit7, ↓q_fit8, ↓q_fit9, ↓q_fit10, ↓q_fit11, ↓q_fit12, ↓q_fit13, ↓q_fit14, ↓q_fit15, ↓q_fit16, ↓q_fit17, ↓q_fit18, ↓q_fit19, ↓q_fit20, ↓q_fit21, ↓q_fit22, ↓q_fit23, ↓q_fit24, ↓q_fit25, ↓q_fit26, ↓q_fit27, ↓q_fit28, ↓q_fit29, ↓q_fit30, ↓q_fit31, ↓q_fit32, ↓q_fit33, ↓q_fit34, ↓q_fit35, ↓q_fit36, ↓q_fit37, ↓q_fit38, ↓q_fit39, ↓q_fit40, ↓q_putIo, ↓q_cl_nil, ↓q_cl_bor, ↓q_pio_nil, ↓q_pio_bor, ↓q_cl_var, ↓q_pio_var, ↓q_cl_non, ↓q_pio_non, ↓q_cl_bl, ↓q_pio_bl, ↓q_cl_int, ↓q_pio_int, ↓q_cl_str, ↓q_pio_str, ↓q_cl_nop, ↓q_pio_nop, ↓q_cl_glo, ↓q_pio_glo, ↓q_cl_tup, ↓q_pio_tup, ↓q_cl_lst, ↓q_pio_lst, ↓q_cl_dct, ↓q_pio_dct, ↓q_cl_bin, ↓q_pio_bin, ↓q_cl_neg, ↓q_pio_neg, ↓q_cl_cmp, ↓q_pio_cmp, ↓q_cl_chn, ↓q_pio_chn, ↓q_cl_nt, ↓q_pio_nt, ↓q_cl_an, ↓q_pio_an, ↓q_cl_orr, ↓q_pio_orr, ↓q_cl_ite, ↓q_pio_ite, ↓q_cl_ix, ↓q_pio_ix, ↓q_cl_sl, ↓q_pio_sl, ↓q_cl_rev, ↓q_pio_rev, ↓q_cl_cal, ↓q_pio_cal, ↓q_cl_b1, ↓q_pio_b1, ↓q_cl_b2, ↓q_pio_b2, ↓q_cl_isi, ↓q_pio_isi, ↓q_cl_m0, ↓q_pio_m0, ↓q_cl_m1, ↓q_pio_m1, ↓q_cl_m2, ↓q_pio_m2, ↓q_cl_mm0, ↓q_pio_mm0, ↓q_cl_mm1, ↓q_pio_mm1, ↓q_cl_cmpr, ↓q_pio_cmpr, ↓q_cl_gin, ↓q_pio_gin, ↓q_cl_gget, ↓q_pio_gget, q_fx_var, q_fx_non, q_fx_bl, q_fx_int, q_fx_str, q_fx_nop, q_fx_glo, q_fx_tup, q_fx_lst, q_fx_dct, q_fx_bin, q_fx_neg, q_fx_cmp, q_fx_chn, q_fx_nt, q_fx_an, q_fx_orr, q_fx_ite, q_fx_ix, q_fx_sl, q_fx_rev, q_fx_cal, q_fx_b1, q_fx_b2, q_fx_isi, q_fx_m0, q_fx_m1, q_fx_m2, q_fx_mm0, q_fx_mm1, q_fx_cmpr, q_fx_gin, q_fx_gget, q_fx_bor, q_fxs_nil, q_fxs_cons, q_lk_z, q_lk_s, q_wO_s, q_ixO_nop, q_ixO_var, q_ixO_non, q_ixO_bl, q_ixO_int, q_ixO_str, q_ixO_glo, q_ixO_tup, q_ixO_lst, q_ixO_dct, q_ixO_bin, q_ixO_neg, q_ixO_cmp, q_ixO_chn, q_ixO_nt, q_ixO_an, q_ixO_orr, q_ixO_ite, q_ixO_ix, q_ixO_sl, q_ixO_rev, q_ixO_cal, q_ixO_b1, q_ixO_b2, q_ixO_isi, q_ixO_m0, q_ixO_m1, q_ixO_m2, q_ixO_mm0, q_ixO_mm1, q_ixO_cmpr, q_ixO_gin, q_ixO_gget, q_asgT_nm, q_asgT_tp, q_setAll_nil, q_setAll_cons, q_wT_non, q_wT_bl, q_wT_int, q_wT_tup, q_wT_lst, q_wT_str, q_wB_bl, q_wInt_int, q_bin_add, q_bin_sub, q_bin_mul, q_bin_mod, q_bin_fdiv, q_bin_pow, q_bin_adds, q_bin_addt, q_bin_addl, q_neg_int, q_cmp_lt, q_cmp_le, q_cmp_gt, q_cmp_ge, q_cmp_eq, q_cmp_ne, q_cmp_in, q_cmp_nin, q_cmp_is, q_cmp_isn, q_eq_int, q_eq_str, q_eq_tupn, q_eq_ntup, q_eq_lstn, q_in_str, q_ix_lst, q_ix_tup, q_ix_scr, q_ix_str, q_sl_tup, q_sl_lst, q_sl_scr, q_sl_str, q_rev_tup, q_rev_lst, q_rev_str, q_len_lst, q_len_tup, q_len_scr, q_len_str, q_abs_int, q_int_int, q_int_bl, q_str_int, q_all_lst, q_any_lst, q_tup_lst, q_tup_tup, q_lst_tup, q_lst_lst, q_rep_any, q_max_two, q_min_two, q_up_str, q_split_str, q_join_str, q_strip_str, q_index_lst, q_app_lst, q_ext_lst, q_pop_lst, q_ty_list, q_ty_str, q_ty_str2, q_ty_str3, q_ty_idx, q_set_lst, q_strO_str, q_it_tup, q_it_lst, q_it_scr, q_it_str, q_zip_st, q_zip_ll, q_zip_tt, q_enum_l, q_enum_t, q_isi_non, q_isi_bl, q_isi_int, q_isi_str, q_isi_tup, q_isi_lst, q_isi_dct, q_at0, q_at1, q_at2, q_at3, q_ixn0, q_ixn1, q_ixn2, q_ixn3, q_ixn4, q_ixn5, q_ixn6, q_ixn7, q_lkn, q_lkn0, q_lk0, q_lkS, q_wipe_nil, q_wipe_cons, q_back_nil, q_back_cons, q_ty_int_int, q_ty_int_str, q_ty_int_bool, q_ty_int_tuple, q_ty_int_list, q_ty_int_dict, q_ty_str_int, q_ty_str_str, q_ty_str_bool, q_ty_str_tuple, q_ty_str_list, q_ty_str_dict, q_ty_bool_int, q_ty_bool_str, q_ty_bool_bool, q_ty_bool_tuple, q_ty_bool_list, q_ty_bool_dict, q_ty_tuple_int, q_ty_tuple_str, q_ty_tuple_bool, q_ty_tuple_tuple, q_ty_tuple_list, q_ty_tuple_dict, q_ty_list_int, q_ty_list_str, q_ty_list_bool, q_ty_list_tuple, q_ty_list_list, q_ty_list_dict, q_ty_dict_int, q_ty_dict_str, q_ty_dict_bool, q_ty_dict_tuple, q_ty_dict_list, q_ty_dict_dict, q_kvs, q_fit0, q_fit1, q_fit2, q_fit3, q_fit4, q_fit5, q_fit6, q_fit7, q_fit8, q_fit9, q_fit10, q_fit11, q_fit12, q_fit13, q_fit14, q_fit15, q_fit16, q_fit17, q_fit18, q_fit19, q_fit20, q_fit21, q_fit22, q_fit23, q_fit24, q_fit25, q_fit26, q_fit27, q_fit28, q_fit29, q_fit30, q_fit31, q_fit32, q_fit33, q_fit34, q_fit35, q_fit36, q_fit37, q_fit38, q_fit39, q_fit40, q_putIo, q_cl_nil, q_cl_bor, q_pio_nil, q_pio_bor, q_cl_var, q_pio_var, q_cl_non, q_pio_non, q_cl_bl, q_pio_bl, q_cl_int, q_pio_int, q_cl_str, q_pio_str, q_cl_nop, q_pio_nop, q_cl_glo, q_pio_glo, q_cl_tup, q_pio_tup, q_cl_lst, q_pio_lst, q_cl_dct, q_pio_dct, q_cl_bin, q_pio_bin, q_cl_neg, q_pio_neg, q_cl_cmp, q_pio_cmp, q_cl_chn, q_pio_chn, q_cl_nt, q_pio_nt, q_cl_an, q_pio_an, q_cl_orr, q_pio_orr, q_cl_ite, q_pio_ite, q_cl_ix, q_pio_ix, q_cl_sl, q_pio_sl, q_cl_rev, q_pio_rev, q_cl_cal, q_pio_cal, q_cl_b1, q_pio_b1, q_cl_b2, q_pio_b2, q_cl_isi, q_pio_isi, q_cl_m0, q_pio_m0, q_cl_m1, q_pio_m1, q_cl_m2, q_pio_m2, q_cl_mm0, q_pio_mm0, q_cl_mm1, q_pio_mm1, q_cl_cmpr, q_pio_cmpr, q_cl_gin, q_pio_gin, q_cl_gget, q_pio_gget, List.set_cons_zero, List.set_cons_succ, List.length_cons, List.length_nil, List.map_cons, List.map_nil, List.replicate_succ, List.replicate_zero, List.cons_append, List.nil_append, List.take_succ_cons, List.take_zero, true_and, and_true, Bool.not_true, Bool.not_false, if_true, Bool.false_eq_true, if_false, cond_true, cond_false, List.isEmpty_cons, List.isEmpty_nil, Option.isNone_some, Bool.or_true, Bool.true_or, Bool.or_false, Bool.false_or, Bool.and_true, Bool.true_and, Bool.and_false, Bool.false_and, Nat.reduceAdd, Nat.reduceSub, Nat.reduceLT, Nat.reduceLeDiff, Nat.zero_add, Int.reduceLT, Int.reduceLE, reduceCtorEq, decide_eq_true_eq, Nat.lt_add_one, Nat.zero_lt_succ, *])
/-! QF: deeds: the program's look and the laws' own -/
def TAB : List (Str × Str) := [("set", "aew"), ("step", "ae"), ("change", "aee"), ("evenings", "ee"), ("wires", "aiai"), ("swap", "aa"), ("fuse", "aw"), ("put", "naiaiv"), ("need", "aew"), ("bar", "aew")]
def look (w : Str) : Option Str := (TAB.find? fun p => decide (p.1 = w)).map (·.2)
abbrev tabD : List (D × D) := TAB.map fun p => (.str p.1, .str p.2)
theorem look_mem {w ks : Str} (h : look w = some ks) : (w, ks) ∈ TAB := by
  unfold look at h
  cases e : TAB.find? (fun p => decide (p.1 = w)) with
  | none => rw [e] at h; cases h
  | some p =>
    rw [e] at h
    cases h
    have h1 := List.find?_some e
    have h2 := List.mem_of_find?_eq_some e
    rw [← of_decide_eq_true h1]
    exact h2
theorem look_short {w ks : Str} (h : look w = some ks) : ks.cps.toList.length ≤ 6 := by
  have q : TAB.all (fun p => decide (p.2.cps.toList.length ≤ 6)) = true := by decide +kernel
  exact of_decide_eq_true (List.all_eq_true.mp q _ (look_mem h))
theorem look_fits {w ks : Str} (h : look w = some ks) : fits ks = true := fits_of (by have := look_short h; omega)
theorem dget_tab (w : Str) : dget tabD (.str w) = (look w).map .str := by
  unfold dget look tabD
  rw [List.find?_map, Option.map_map, Option.map_map]
  rfl
/-- the word against a deed, or none -/
def deedErr (v : D) : D := match v with
  | .tup (.str w :: items) => match look w with
    | some ks => if items.length = ks.cps.toList.length then (if (ks.cps.toList.zip items).all (fun p => partB p.1 p.2) then .non else .str "part") else .str "deed"
    | none => .str "deed"
  | _ => .str "deed"
theorem cutD_1 (x : D) (xs : List D) : cutD (x :: xs) (some 1) none = xs := by
  unfold cutD
  rw [sIx_nn (by decide), HT.sIx_none, List.length_cons]
  show ((x :: xs).drop (min 1 (xs.length + 1))).take (xs.length + 1 - min 1 (xs.length + 1)) = xs
  rw [show min 1 (xs.length + 1) = 1 by omega]
  simp
structure VisT (v0 : D) : Prop where
  v : vis v0 = true
  t : ∀ items, v0 = .tup items → ∀ x ∈ items, vis x = true
theorem Gd.visT {W n : Nat} {d : D} (h : Gd W n d) (hW : W ≤ 1000000) : VisT d := ⟨h.vis hW, fun items e x hx => by
  subst e
  have w := h.w
  rw [wt] at w
  have := wtL_mem hx
  cases n with
  | zero => have := h.p; simp [pln] at this
  | succ n => exact Gd.vis (W := W) (n := n) ⟨by omega, plnL_mem (by have := h.p; simpa [pln] using this) hx, ascL_mem (by have := h.a; simpa [asc] using this) hx⟩ hW⟩
theorem zip_chars (ks : Str) (items : List D) (p : Nat → D → D) (q : D → D → D) (h : ∀ c d, q (.str ⟨#[c]⟩) d = p c d) : ((charsD ks).zip items).map (fun z => q z.1 z.2) = (ks.cps.toList.zip items).map fun z => p z.1 z.2 := by
  unfold charsD
  rw [List.zip_map_left, List.map_map]
  refine List.map_congr_left fun z _ => ?_
  exact h z.1 z.2
def chr0 (d : D) : Nat := match d with
  | .str s => s.cps.toList.headD 0
  | _ => 0
theorem mem_zip_chars {ks : Str} {items : List D} {x y : D} (h : (x, y) ∈ (charsD ks).zip items) : (∃ c, x = .str ⟨#[c]⟩) ∧ y ∈ items := by
  have := List.of_mem_zip h
  obtain ⟨c, _, e⟩ := List.mem_map.mp this.1
  exact ⟨⟨c, e.symm⟩, this.2⟩
section
variable {G : List D} {fns : List Fn} {wf n f : Nat} {Q : D → PD.Env → Prop} {X : XQ} {d : D} {g : Nat}
/-- deed_error -/
def deedErrFn (gP jP : Nat) : Fn := ⟨1, 4, [false, false, false, false], false,
      (.cons (.ite (.orr (.nt (.isi (.var 0) .tuple)) (.orr (.cmp .eq (.b1 .len (.var 0)) (.int 0)) (.nt (.isi (.ix (.var 0) (.int 0)) .str))))
      (.cons (.ret (.str "deed"))
      .nil)
      .nil)
      (.cons (.ite (.orr (.gin gP true (.ix (.var 0) (.int 0))) (.cmp .ne (.b1 .len (.var 0)) (.bin .add (.int 1) (.b1 .len (.gget gP (.ix (.var 0) (.int 0)))))))
      (.cons (.ret (.str "deed"))
      .nil)
      .nil)
      (.cons (.asg (.nm 1) (.gget gP (.ix (.var 0) (.int 0))))
      (.cons (.ret (.ite (.b1 .all (.cmpr (.cal jP (.cons (.var 2) (.cons (.var 3) .nil))) (.tp [2, 3]) [2, 3] (.zip (.var 1) (.sl (.var 0) (.int 1) .nop)) (.bl true))) .non (.str "part")))
      .nil))))⟩
/-- the calls of is_part -/
structure PartOk (G : List D) (fns : List Fn) (wf n jP : Nat) : Prop where
  call : ∀ (c : Nat) (d : D) (Q : D → PD.Env → Prop) (X : XQ), vis d = true → (∀ io, Q (.bl (partB c d)) io) → wC (callF G fns wf n jP [.str ⟨#[c]⟩, d]) Q X
theorem partOk_of {jP jN jE jB jW jS g g2 : Nat} (hF : fns[jP]? = some (isPartFn jN jE jB jW jS)) (hN : fns[jN]? = some (isNameFn g)) (hG : G[g]? = some (.str LET)) (hE : fns[jE]? = some (isEveFn jB)) (hB : fns[jB]? = some isBelowFn) (hW : fns[jW]? = some isWayFn) (hS : fns[jS]? = some (isWaysFn g2)) (hG2 : G[g2]? = some (.str "abc"))
    (hn : 3 ≤ n) : PartOk G fns wf n jP := ⟨fun c d Q X hd k => isPart_w hF hN hG hE hB hW hS hG2 hn hd k⟩
theorem deedErr_w {gP jP : Nat} (hF : fns[f]? = some (deedErrFn gP jP)) (hP : PartOk G fns wf (n - 1) jP) (hG : G[gP]? = some (.dct false tabD)) (hn : 1 ≤ n) (hd : VisT d) (k : ∀ io, Q (deedErr d) io) : wC (callF G fns wf n f [d]) Q X := by
  refine wC_callF hF hn rfl ?_
  unfold deedErrFn
  have hv := hd.v
  cases d with
  | tup xs =>
    cases xs with
    | nil => walk_at "ev"; exact k _
    | cons x items =>
      have hx := hd.t _ rfl x (List.mem_cons_self ..)
      have ne : ¬ ((items.length + 1 : Nat) : Int) = 0 := by omega
      have ne2 : decide (((items.length + 1 : Nat) : Int) = 0) = false := decide_eq_false ne
      cases x with
      | str w =>
        have hdg := dget_tab w
        have ed : deedErr (.tup (.str w :: items)) = match look w with
          | some ks => if items.length = ks.cps.toList.length then (if (ks.cps.toList.zip items).all (fun p => partB p.1 p.2) then .non else .str "part") else .str "deed"
          | none => .str "deed" := rfl
        cases el : look w with
        | none =>
          rw [el] at hdg ed
          simp only [Option.map_none] at hdg
          rw [ed] at k
          walk_at "ev"
          simp only [Option.isSome_none, Bool.not_false, if_true]
          all_goals exact k _
        | some ks =>
          rw [el] at hdg ed
          simp only [Option.map_some] at hdg
          have hf : fits ks = true := look_fits el
          have hs : ks.length = ks.cps.toList.length := str_size ks
          have hc1 := cutD_1 (.str w) items
          walk_at "ev"
          simp only [Option.isSome_some, Bool.not_true, Bool.false_eq_true, if_false]
          simp only [hs] at *
          by_cases hl : items.length = ks.cps.toList.length
          · have e1 : decide (((items.length + 1 : Nat) : Int) = 1 + (ks.cps.toList.length : Int)) = true := decide_eq_true (by omega)
            rw [if_pos hl] at ed
            rw [e1]
            simp only [Bool.not_true, Bool.false_eq_true, if_false]
            refine ⟨fitn_of ?_, ?_⟩
            · rw [pairD_len]
              have := look_short el
              have : (charsD ks).length = ks.cps.toList.length := by simp [charsD]
              omega
            refine wL_mapT (by decide) (fun x y => .bl (partB (chr0 x) y)) (fun x y hxy => ?_) (fun u v => ?_) ⟨none, none, rfl⟩
            · obtain ⟨⟨c, rfl⟩, hy⟩ := mem_zip_chars hxy
              have hvy := hd.t _ rfl y (List.mem_cons_of_mem _ hy)
              walk_at "ev"
              refine hP.call c y _ _ hvy fun io => ?_
              walk_at "ev"
              exact ⟨rfl, _, _, rfl⟩
            · have ez := zip_chars ks items (fun c d => .bl (partB c d)) (fun x y => .bl (partB (chr0 x) y)) (fun c d => rfl)
              have eb := blsD_map (fun p : Nat × D => partB p.1 p.2) (ks.cps.toList.zip items)
              have ea : (((ks.cps.toList.zip items).map fun p => partB p.1 p.2).all id) = (ks.cps.toList.zip items).all fun p => partB p.1 p.2 := by rw [List.all_map]; rfl
              rw [ez]
              walk_at "ev"
              rw [ed] at k
              split
              · rename_i h
                rw [if_pos h] at k
                walk_at "ev"
                all_goals exact k _
              · rename_i h
                rw [if_neg h] at k
                walk_at "ev"
                all_goals exact k _
          · have e1 : decide (((items.length + 1 : Nat) : Int) = 1 + (ks.cps.toList.length : Int)) = false := decide_eq_false (by omega)
            rw [if_neg hl] at ed
            rw [e1]
            simp only [Bool.not_false, if_true]
            rw [ed] at k
            exact k _
      | fz _ => cases hx
      | scr _ => cases hx
      | obj _ _ => cases hx
      | _ => walk_at "ev" <;> exact k _
  | fz _ => cases hv
  | scr _ => cases hv
  | obj _ _ => cases hv
  | _ => walk_at "ev" <;> exact k _
end

/-! ### the laws' own -/
def WORDS : List Str := TAB.map (·.1)
def WTXT : Str := "set step change evenings wires swap fuse put need bar"
theorem words_split : Txt.split WTXT " " = WORDS := by decide +kernel
def RTX1 : Str := "set aew step ae change aee evenings ee wires aiai swap aa"
def RTX2 : Str := " fuse aw put naiaiv need aew bar aew"
def ROWS : List Str := ["set", "aew", "step", "ae", "change", "aee", "evenings", "ee", "wires", "aiai", "swap", "aa", "fuse", "aw", "put", "naiaiv", "need", "aew", "bar", "aew"]
theorem rows_split : Txt.split (RTX1 ++ RTX2) " " = ROWS := by decide +kernel
theorem rows_at {w ks : Str} (h : look w = some ks) : ∃ i : Nat, idxD (ROWS.map .str) (.str w) = some i ∧ atI (ROWS.map D.str) ((i : Int) + 1) = some (.str ks) := by
  have q : TAB.all (fun p => match idxS ROWS p.1 with | some i => decide (ROWS[i + 1]? = some p.2) && decide (i + 1 < 20) | none => false) = true := by decide +kernel
  have := List.all_eq_true.mp q _ (look_mem h)
  simp only at this
  cases e : idxS ROWS w with
  | none => rw [e] at this; cases this
  | some i =>
    rw [e] at this
    simp only [Bool.and_eq_true, decide_eq_true_eq] at this
    refine ⟨i, ?_, ?_⟩
    · unfold idxD
      rw [strsD_map]
      exact e
    · unfold atI ixN
      have hl : (ROWS.map D.str).length = 20 := by decide
      rw [hl, if_pos (by omega), if_pos (by omega)]
      show (ROWS.map D.str)[((i : Int) + 1).toNat]? = _
      rw [show ((i : Int) + 1).toNat = i + 1 by omega, List.getElem?_map, this.1]; rfl
theorem look_none {w : Str} : (look w = none) ↔ WORDS.contains w = false := by
  unfold look WORDS
  rw [Option.map_eq_none_iff, List.find?_eq_none]
  constructor
  · intro h
    rw [Bool.eq_false_iff]
    intro hc
    rw [List.contains_iff_mem] at hc
    obtain ⟨p, hp, e⟩ := List.mem_map.mp hc
    exact h p hp (decide_eq_true e)
  · intro h p hp e
    have e := of_decide_eq_true e
    have : (TAB.map (·.1)).contains w = true := by
      rw [List.contains_iff_mem]
      exact List.mem_map.mpr ⟨p, hp, e⟩
    rw [h] at this
    cases this
def kindsOk : Bool := TAB.all fun p => p.2.cps.toList.all fun c => ([97, 110, 101, 105, 119, 118] : List Nat).contains c
theorem look_kinds {w ks : Str} (h : look w = some ks) : ∀ c ∈ ks.cps.toList, c = 97 ∨ c = 110 ∨ c = 101 ∨ c = 105 ∨ c = 119 ∨ c = 118 := by
  have q : kindsOk = true := by decide +kernel
  intro c hc
  have := List.all_eq_true.mp (List.all_eq_true.mp q _ (look_mem h)) c hc
  rw [List.contains_iff_mem] at this
  simpa using this
section
variable {G : List D} {fns : List Fn} {wf n f : Nat} {Q : D → PD.Env → Prop} {X : XQ} {d : D} {g : Nat}
/-- _law_words -/
def wordsFn : Fn := ⟨0, 0, [], false,
      (.cons (.ret (.m1 .split (.str "set step change evenings wires swap fuse put need bar") (.str " ")))
      .nil)⟩
theorem words_w (hF : fns[f]? = some wordsFn) (hn : 1 ≤ n) (k : ∀ io, Q (.lst (WORDS.map .str)) io) : wC (callF G fns wf n f []) Q X := by
  refine wC_callF hF hn rfl ?_
  unfold wordsFn
  have e : Txt.split "set step change evenings wires swap fuse put need bar" " " = WORDS := words_split
  walk_at "ev"
  (repeat' apply And.intro) <;> first | exact k _ | exact fitn_of (by decide +kernel) | decide
/-- _law_parts -/
def partsFn : Fn := ⟨1, 2, [false, false], false,
      (.cons (.asg (.nm 1) (.str "set aew step ae change aee evenings ee wires aiai swap aa"))
      (.cons (.asg (.nm 1) (.m1 .split (.bin .add (.var 1) (.str " fuse aw put naiaiv need aew bar aew")) (.str " ")))
      (.cons (.ret (.ix (.var 1) (.bin .add (.m1 .index (.var 1) (.var 0)) (.int 1))))
      .nil)))⟩
theorem parts_w {w ks : Str} (hF : fns[f]? = some partsFn) (hn : 1 ≤ n) (hl : look w = some ks) (k : ∀ io, Q (.str ks) io) : wC (callF G fns wf n f [.str w]) Q X := by
  refine wC_callF hF hn rfl ?_
  unfold partsFn
  have e : Txt.split (("set aew step ae change aee evenings ee wires aiai swap aa" : Str) ++ (" fuse aw put naiaiv need aew bar aew" : Str)) " " = ROWS := rows_split
  obtain ⟨i, h1, h2⟩ := rows_at hl
  walk_at "ev"
  (repeat' apply And.intro) <;> first | exact k _ | exact fitn_of (by decide +kernel) | decide
/-- _law_is_name -/
def lNameFn : Fn := ⟨1, 1, [false], false,
      (.cons (.ite (.orr (.nt (.isi (.var 0) .str)) (.orr (.cmp .eq (.var 0) (.str "")) (.cmp .gt (.b1 .len (.var 0)) (.int 8))))
      (.cons (.ret (.bl false))
      .nil)
      .nil)
      (.cons (.ret (.cmp .eq (.m1 .strip (.var 0) (.str "abcdefghijklmnopqrstuvwxyz")) (.str "")))
      .nil))⟩
theorem empty_iff (s : Str) : decide (s = ("" : Str)) = decide (s.cps.toList.length = 0) := by
  by_cases h : s.cps.toList.length = 0
  · rw [decide_eq_true h]
    refine decide_eq_true (str_ext ?_)
    rw [List.length_eq_zero_iff.mp h]; rfl
  · rw [decide_eq_false h]
    refine decide_eq_false fun z => h ?_
    rw [z]; rfl
theorem lName_w (hF : fns[f]? = some lNameFn) (hn : 1 ≤ n) (hd : vis d = true) (k : ∀ io, Q (.bl (nmD d)) io) : wC (callF G fns wf n f [d]) Q X := by
  refine wC_callF hF hn rfl ?_
  unfold lNameFn
  cases d with
  | str s =>
    have hf := vis_str hd
    have hs : s.length = s.cps.toList.length := str_size s
    have e1 := empty_iff s
    have e2 := strip_nil s LET
    have en := isNm_eq s
    have kk : ∀ io, Q (.bl (isNm s)) io := k
    rw [en] at kk
    rw [hs] at kk
    walk_at "ev"
    split
    · rename_i h
      rw [decide_eq_false (by omega), Bool.false_and, Bool.false_and] at kk
      exact kk _
    · rename_i h
      split
      · rename_i h2
        rw [decide_eq_false (show ¬ s.cps.toList.length ≤ 8 by omega), Bool.and_false, Bool.false_and] at kk
        exact kk _
      · rename_i h2
        rw [decide_eq_true (show 1 ≤ s.cps.toList.length by omega), decide_eq_true (show s.cps.toList.length ≤ 8 by omega)] at kk
        exact kk _
  | fz _ => cases hd
  | scr _ => cases hd
  | obj _ _ => cases hd
  | _ => walk_at "ev" <;> exact k _
/-- _law_is_ways -/
def lWaysFn : Fn := ⟨1, 1, [false], false,
      (.cons (.ret (.an (.isi (.var 0) .str) (.an (.cmp .eq (.b1 .len (.var 0)) (.int 3)) (.cmp .eq (.m1 .strip (.var 0) (.str "abc")) (.str "")))))
      .nil)⟩
theorem lWays_w (hF : fns[f]? = some lWaysFn) (hn : 1 ≤ n) (hd : vis d = true) (k : ∀ io, Q (.bl (waysD d)) io) : wC (callF G fns wf n f [d]) Q X := by
  refine wC_callF hF hn rfl ?_
  unfold lWaysFn
  cases d with
  | str s =>
    have hf := vis_str hd
    have hs : s.length = s.cps.toList.length := str_size s
    have e2 := strip_nil s "abc"
    have kk : ∀ io, Q (.bl (decide (s.cps.toList.length = 3) && s.cps.toList.all fun c => decide (c ∈ ("abc" : Str).cps.toList))) io := k
    walk_at "ev"
    split
    · rename_i h
      rw [decide_eq_true (by omega)] at kk
      exact kk _
    · rename_i h
      rw [decide_eq_false (show ¬ s.cps.toList.length = 3 by omega), Bool.false_and] at kk
      rw [decide_eq_false h]
      exact kk _
  | fz _ => cases hd
  | scr _ => cases hd
  | obj _ _ => cases hd
  | _ => walk_at "ev" <;> exact k _
/-- _law_is_part -/
def lPartFn (jN jB jS : Nat) : Fn := ⟨2, 2, [false, false], false,
      (.cons (.ite (.cmp .isin (.var 0) (.tup (.cons (.str "a") (.cons (.str "n") .nil))))
      (.cons (.ret (.cal jN (.cons (.var 1) .nil)))
      .nil)
      .nil)
      (.cons (.ite (.cmp .isin (.var 0) (.tup (.cons (.str "e") (.cons (.str "i") .nil))))
      (.cons (.ret (.cal jB (.cons (.var 1) (.cons (.bin .add (.int 3) (.b1 .int (.cmp .eq (.var 0) (.str "i")))) .nil))))
      .nil)
      .nil)
      (.cons (.ret (.ite (.cmp .eq (.var 0) (.str "v")) (.cal jS (.cons (.var 1) .nil)) (.an (.isi (.var 1) .str) (.cmp .isin (.var 1) (.tup (.cons (.str "a") (.cons (.str "b") (.cons (.str "c") .nil))))))))
      .nil)))⟩
theorem lPart_w {jN jB jS c : Nat} (hF : fns[f]? = some (lPartFn jN jB jS)) (hN : fns[jN]? = some lNameFn) (hB : fns[jB]? = some isBelowFn) (hS : fns[jS]? = some lWaysFn) (hn : 2 ≤ n) (hd : vis d = true)
    (hc : c = 97 ∨ c = 110 ∨ c = 101 ∨ c = 105 ∨ c = 119 ∨ c = 118) (k : ∀ io, Q (.bl (partB c d)) io) : wC (callF G fns wf n f [.str ⟨#[c]⟩, d]) Q X := by
  refine wC_callF hF (by omega) rfl ?_
  unfold lPartFn
  have s2 : fitn 2 = true := by decide
  have s3 : fitn 3 = true := by decide
  have i1 := in_strs (⟨#[c]⟩) ["a", "n"]
  have i2 := in_strs (⟨#[c]⟩) ["e", "i"]
  simp only [List.map_cons, List.map_nil] at i1 i2
  rcases hc with rfl | rfl | rfl | rfl | rfl | rfl
  · rw [show (["a", "n"] : List Str).contains ⟨#[97]⟩ = true by decide +kernel] at i1
    walk_at "ev"
    refine lName_w hN (by omega) hd fun io => ?_
    walk_at "ev"
    all_goals exact k _
  · rw [show (["a", "n"] : List Str).contains ⟨#[110]⟩ = true by decide +kernel] at i1
    walk_at "ev"
    refine lName_w hN (by omega) hd fun io => ?_
    walk_at "ev"
    all_goals exact k _
  · rw [show (["a", "n"] : List Str).contains ⟨#[101]⟩ = false by decide +kernel] at i1
    rw [show (["e", "i"] : List Str).contains ⟨#[101]⟩ = true by decide +kernel] at i2
    have e3 : decide ((⟨#[101]⟩ : Str) = "i") = false := by decide +kernel
    walk_at "ev"
    refine isBelow_w hB (by omega) hd fun io => ?_
    walk_at "ev"
    all_goals exact k _
  · rw [show (["a", "n"] : List Str).contains ⟨#[105]⟩ = false by decide +kernel] at i1
    rw [show (["e", "i"] : List Str).contains ⟨#[105]⟩ = true by decide +kernel] at i2
    have e3 : decide ((⟨#[105]⟩ : Str) = "i") = true := by decide +kernel
    walk_at "ev"
    refine isBelow_w hB (by omega) hd fun io => ?_
    walk_at "ev"
    all_goals exact k _
  · rw [show (["a", "n"] : List Str).contains ⟨#[119]⟩ = false by decide +kernel] at i1
    rw [show (["e", "i"] : List Str).contains ⟨#[119]⟩ = false by decide +kernel] at i2
    have e3 : decide ((⟨#[119]⟩ : Str) = "v") = false := by decide +kernel
    have kk : ∀ io, Q (.bl (wayD d)) io := k
    cases d with
    | str s =>
      have i3 := in_strs s ["a", "b", "c"]
      simp only [List.map_cons, List.map_nil] at i3
      walk_at "ev"
      all_goals exact kk _
    | fz _ => cases hd
    | scr _ => cases hd
    | obj _ _ => cases hd
    | _ => walk_at "ev" <;> exact kk _
  · rw [show (["a", "n"] : List Str).contains ⟨#[118]⟩ = false by decide +kernel] at i1
    rw [show (["e", "i"] : List Str).contains ⟨#[118]⟩ = false by decide +kernel] at i2
    have e3 : decide ((⟨#[118]⟩ : Str) = "v") = true := by decide +kernel
    walk_at "ev"
    refine lWays_w hS (by omega) hd fun io => ?_
    walk_at "ev"
    all_goals exact k _
end

section
variable {G : List D} {fns : List Fn} {wf n f : Nat} {Q : D → PD.Env → Prop} {X : XQ} {d : D} {g : Nat}
/-- _law_deed_error -/
def lDeedErrFn (jW jR jP : Nat) : Fn := ⟨1, 5, [false, false, false, false, false], false,
      (.cons (.ite (.orr (.nt (.isi (.var 0) .tuple)) (.orr (.cmp .eq (.var 0) (.tup .nil)) (.orr (.nt (.isi (.ix (.var 0) (.int 0)) .str)) (.cmp .nin (.ix (.var 0) (.int 0)) (.cal jW .nil)))))
      (.cons (.ret (.str "deed"))
      .nil)
      .nil)
      (.cons (.asg (.nm 1) (.cal jR (.cons (.ix (.var 0) (.int 0)) .nil)))
      (.cons (.ite (.cmp .ne (.b1 .len (.var 0)) (.bin .add (.int 1) (.b1 .len (.var 1))))
      (.cons (.ret (.str "deed"))
      .nil)
      .nil)
      (.cons (.asg (.nm 2) (.cmpr (.var 4) (.tp [3, 4]) [3, 4] (.zip (.var 1) (.sl (.var 0) (.int 1) .nop)) (.nt (.cal jP (.cons (.var 3) (.cons (.var 4) .nil))))))
      (.cons (.ret (.ite (.cmp .ne (.var 2) (.lst .nil)) (.str "part") .non))
      .nil)))))⟩
structure LPartOk (G : List D) (fns : List Fn) (wf n jP : Nat) : Prop where
  call : ∀ (c : Nat) (d : D) (Q : D → PD.Env → Prop) (X : XQ), vis d = true → (c = 97 ∨ c = 110 ∨ c = 101 ∨ c = 105 ∨ c = 119 ∨ c = 118) → (∀ io, Q (.bl (partB c d)) io) → wC (callF G fns wf n jP [.str ⟨#[c]⟩, d]) Q X
theorem lPartOk_of {jP jN jB jS : Nat} (hF : fns[jP]? = some (lPartFn jN jB jS)) (hN : fns[jN]? = some lNameFn) (hB : fns[jB]? = some isBelowFn) (hS : fns[jS]? = some lWaysFn) (hn : 2 ≤ n) : LPartOk G fns wf n jP :=
  ⟨fun c d Q X hd hc k => lPart_w hF hN hB hS hn hd hc k⟩
theorem not_isEmpty_filter {α : Type} (L : List α) (p : α → Bool) : ((L.filter fun x => !p x).isEmpty) = L.all p := by
  rw [Bool.eq_iff_iff, List.isEmpty_iff, List.filter_eq_nil_iff, List.all_eq_true]
  constructor
  · intro h x hx
    have := h x hx
    simpa using this
  · intro h x hx
    rw [h x hx]; simp
theorem eq_lstn (L : List D) : eqD (.lst L) (.lst []) = some L.isEmpty := by cases L <;> rfl
theorem lDeedErr_w {jW jR jP : Nat} (hF : fns[f]? = some (lDeedErrFn jW jR jP)) (hW : fns[jW]? = some wordsFn) (hR : fns[jR]? = some partsFn) (hP : LPartOk G fns wf (n - 1) jP) (hn : 2 ≤ n) (hd : VisT d) (k : ∀ io, Q (deedErr d) io) : wC (callF G fns wf n f [d]) Q X := by
  refine wC_callF hF (by omega) rfl ?_
  unfold lDeedErrFn
  have hv := hd.v
  cases d with
  | tup xs =>
    cases xs with
    | nil => walk_at "ev"; exact k _
    | cons x items =>
      have hx := hd.t _ rfl x (List.mem_cons_self ..)
      cases x with
      | str w =>
        have ed : deedErr (.tup (.str w :: items)) = match look w with
          | some ks => if items.length = ks.cps.toList.length then (if (ks.cps.toList.zip items).all (fun p => partB p.1 p.2) then .non else .str "part") else .str "deed"
          | none => .str "deed" := rfl
        have hw := in_strsL w WORDS
        walk_at "ev"
        refine words_w hW (by omega) fun io => ?_
        cases el : look w with
        | none =>
          rw [el] at ed
          rw [ed] at k
          rw [look_none.mp el] at hw
          walk_at "ev"
          all_goals exact k _
        | some ks =>
          rw [el] at ed
          have hw2 : WORDS.contains w = true := by
            cases z : WORDS.contains w with
            | true => rfl
            | false => rw [look_none.mpr z] at el; cases el
          rw [hw2] at hw
          walk_at "ev"
          refine parts_w hR (by omega) el fun io2 => ?_
          have hs : ks.length = ks.cps.toList.length := str_size ks
          have hf : fits ks = true := look_fits el
          have hc1 := cutD_1 (.str w) items
          walk_at "ev"
          by_cases hl : items.length = ks.cps.toList.length
          · have e1 : decide (((items.length + 1 : Nat) : Int) = 1 + (ks.cps.toList.length : Int)) = true := decide_eq_true (by omega)
            simp only [if_pos hl] at ed
            simp only [e1, Bool.not_true, Bool.false_eq_true, if_false]
            refine ⟨fitn_of ?_, ?_⟩
            · rw [pairD_len]
              have := look_short el
              have : (charsD ks).length = ks.cps.toList.length := by simp [charsD]
              omega
            refine wL_filT (by decide) (fun x y => !partB (chr0 x) y) (fun x y => y) (fun x y hxy => ?_) (fun u v => ?_) ⟨none, none, rfl⟩
            · obtain ⟨hx1, hy⟩ := mem_zip_chars hxy
              obtain ⟨c, hcm, rfl⟩ := List.mem_map.mp (List.of_mem_zip hxy).1
              have hvy := hd.t _ rfl y (List.mem_cons_of_mem _ hy)
              have hch : chr0 (.str ⟨#[c]⟩) = c := rfl
              walk_at "ev"
              refine hP.call c y _ _ hvy (look_kinds el c hcm) fun io => ?_
              walk_at "ev"
              split
              · exact ⟨_, _, rfl⟩
              · exact ⟨_, _, rfl⟩
            · have ez : (((charsD ks).zip items).all fun p => partB (chr0 p.1) p.2) = (ks.cps.toList.zip items).all fun p => partB p.1 p.2 := by
                unfold charsD
                rw [List.zip_map_left, List.all_map]
                rfl
              have ef : ((((charsD ks).zip items).filter fun p => !partB (chr0 p.1) p.2).map fun p => p.2).isEmpty = ((ks.cps.toList.zip items).all fun p => partB p.1 p.2) := by
                rw [List.isEmpty_map, not_isEmpty_filter, ez]
              have eq := eq_lstn ((((charsD ks).zip items).filter fun p => !partB (chr0 p.1) p.2).map fun p => p.2)
              rw [ef] at eq
              rw [ed] at k
              walk_at "ev"
              cases ea : (ks.cps.toList.zip items).all fun p => partB p.1 p.2 with
              | true =>
                rw [ea] at k
                walk_at "ev"
                all_goals exact k _
              | false =>
                rw [ea] at k
                walk_at "ev"
                all_goals exact k _
          · have e1 : decide (((items.length + 1 : Nat) : Int) = 1 + (ks.cps.toList.length : Int)) = false := decide_eq_false (by omega)
            simp only [if_neg hl] at ed
            simp only [e1, Bool.not_false, if_true]
            rw [ed] at k
            exact k _
      | fz _ => cases hx
      | scr _ => cases hx
      | obj _ _ => cases hx
      | _ => walk_at "ev" <;> exact k _
  | fz _ => cases hv
  | scr _ => cases hv
  | obj _ _ => cases hv
  | _ => walk_at "ev" <;> exact k _
end
end PD
end

section
set_option Elab.async false
set_option linter.all false
set_option maxRecDepth 100000
set_option maxHeartbeats 1000000
namespace PD
open PySem PySem.Spec PyProof.Rows L2
local macro_rules | `(tactic| walk_at "ev") => `(tactic| simp only [↓wE_var, ↓wE_bor, ↓wE_non, ↓wE_nop, ↓wE_bl, ↓wE_int, ↓wE_str, ↓wE_glo, ↓wE_tup, ↓wE_lst, ↓wE_dct, ↓wE_bin, ↓wE_neg, ↓wE_cmp, ↓wE_chn, ↓wE_nt, ↓wE_an, ↓wE_orr, ↓wE_ite, ↓wE_ix, ↓wE_sl, ↓wE_rev, ↓wE_cal, ↓wE_b1, ↓wE_b2, ↓wE_isi, ↓wE_m0, ↓wE_m1, ↓wE_mm0, ↓wE_mm1, ↓wE_cmpr, ↓wE_gin, ↓wE_gget, ↓wEs_nil, ↓wEs_cons, ↓wI_ex, ↓wI_rng1, ↓wI_rng2, ↓wI_zip, ↓wI_enum, ↓wS_asg, ↓wS_own, ↓wS_par, ↓wS_setix, ↓wS_expr, ↓wS_ite, ↓wS_whl, ↓wS_fr, ↓wS_ret, ↓wS_retN, ↓wS_retO, ↓wS_pass, ↓wS_brk, ↓wS_cnt, ↓wSs_nil, ↓wSs_cons, ↓q_fx_var, ↓q_fx_non, ↓q_fx_bl, ↓q_fx_int, ↓q_fx_str, ↓q_fx_nop, ↓q_fx_glo, ↓q_fx_tup, ↓q_fx_lst, ↓q_fx_dct, ↓q_fx_bin, ↓q_fx_neg, ↓q_fx_cmp, ↓q_fx_chn, ↓q_fx_nt, ↓q_fx_an, ↓q_fx_orr, ↓q_fx_ite, ↓q_fx_ix, ↓q_fx_sl, ↓q_fx_rev, ↓q_fx_cal, ↓q_fx_b1, ↓q_fx_b2, ↓q_fx_isi, ↓q_fx_m0, ↓q_fx_m1, ↓q_fx_m2, ↓q_fx_mm0, ↓q_fx_mm1, ↓q_fx_cmpr, ↓q_fx_gin, ↓q_fx_gget, ↓q_fx_bor, ↓q_fxs_nil, ↓q_fxs_cons, ↓q_lk_z, ↓q_lk_s, ↓q_wO_s, ↓q_ixO_nop, ↓q_ixO_var, ↓q_ixO_non, ↓q_ixO_bl, ↓q_ixO_int, ↓q_ixO_str, ↓q_ixO_glo, ↓q_ixO_tup, ↓q_ixO_lst, ↓q_ixO_dct, ↓q_ixO_bin, ↓q_ixO_neg, ↓q_ixO_cmp, ↓q_ixO_chn, ↓q_ixO_nt, ↓q_ixO_an, ↓q_ixO_orr, ↓q_ixO_ite, ↓q_ixO_ix, ↓q_ixO_sl, ↓q_ixO_rev, ↓q_ixO_cal, ↓q_ixO_b1, ↓q_ixO_b2, ↓q_ixO_isi, ↓q_ixO_m0, ↓q_ixO_m1, ↓q_ixO_m2, ↓q_ixO_mm0, ↓q_ixO_mm1, ↓q_ixO_cmpr, ↓q_ixO_gin, ↓q_ixO_gget, ↓q_asgT_nm, ↓q_asgT_tp, ↓q_setAll_nil, ↓q_setAll_cons, ↓q_wT_non, ↓q_wT_bl, ↓q_wT_int, ↓q_wT_tup, ↓q_wT_lst, ↓q_wT_str, ↓q_wB_bl, ↓q_wInt_int, ↓q_bin_add, ↓q_bin_sub, ↓q_bin_mul, ↓q_bin_mod, ↓q_bin_fdiv, ↓q_bin_pow, ↓q_bin_adds, ↓q_bin_addt, ↓q_bin_addl, ↓q_neg_int, ↓q_cmp_lt, ↓q_cmp_le, ↓q_cmp_gt, ↓q_cmp_ge, ↓q_cmp_eq, ↓q_cmp_ne, ↓q_cmp_in, ↓q_cmp_nin, ↓q_cmp_is, ↓q_cmp_isn, ↓q_eq_int, ↓q_eq_str, ↓q_eq_tupn, ↓q_eq_ntup, ↓q_eq_lstn, ↓q_in_str, ↓q_ix_lst, ↓q_ix_tup, ↓q_ix_scr, ↓q_ix_str, ↓q_sl_tup, ↓q_sl_lst, ↓q_sl_scr, ↓q_sl_str, ↓q_rev_tup, ↓q_rev_lst, ↓q_rev_str, ↓q_len_lst, ↓q_len_tup, ↓q_len_scr, ↓q_len_str, ↓q_abs_int, ↓q_int_int, ↓q_int_bl, ↓q_str_int, ↓q_all_lst, ↓q_any_lst, ↓q_tup_lst, ↓q_tup_tup, ↓q_lst_tup, ↓q_lst_lst, ↓q_rep_any, ↓q_max_two, ↓q_min_two, ↓q_up_str, ↓q_split_str, ↓q_join_str, ↓q_strip_str, ↓q_index_lst, ↓q_app_lst, ↓q_ext_lst, ↓q_pop_lst, ↓q_ty_list, ↓q_ty_str, ↓q_ty_str2, ↓q_ty_str3, ↓q_ty_idx, ↓q_set_lst, ↓q_strO_str, ↓q_it_tup, ↓q_it_lst, ↓q_it_scr, ↓q_it_str, ↓q_zip_st, ↓q_zip_ll, ↓q_zip_tt, ↓q_enum_l, ↓q_enum_t, ↓q_isi_non, ↓q_isi_bl, ↓q_isi_int, ↓q_isi_str, ↓q_isi_tup, ↓q_isi_lst, ↓q_isi_dct, ↓q_at0, ↓q_at1, ↓q_at2, ↓q_at3, ↓q_ixn0, ↓q_ixn1, ↓q_ixn2, ↓q_ixn3, ↓q_ixn4, ↓q_ixn5, ↓q_ixn6, ↓q_ixn7, ↓q_lkn, ↓q_lkn0, ↓q_lk0, ↓q_lkS, ↓q_wipe_nil, ↓q_wipe_cons, ↓q_back_nil, ↓q_back_cons, ↓q_ty_int_int, ↓q_ty_int_str, ↓q_ty_int_bool, ↓q_ty_int_tuple, ↓q_ty_int_list, ↓q_ty_int_dict, ↓q_ty_str_int, ↓q_ty_str_str, ↓q_ty_str_bool, ↓q_ty_str_tuple, ↓q_ty_str_list, ↓q_ty_str_dict, ↓q_ty_bool_int, ↓q_ty_bool_str, ↓q_ty_bool_bool, ↓q_ty_bool_tuple, ↓q_ty_bool_list, ↓q_ty_bool_dict, ↓q_ty_tuple_int, ↓q_ty_tuple_str, ↓q_ty_tuple_bool, ↓q_ty_tuple_tuple, ↓q_ty_tuple_list, ↓q_ty_tuple_dict, ↓q_ty_list_int, ↓q_ty_list_str, ↓q_ty_list_bool, ↓q_ty_list_tuple, ↓q_ty_list_list, ↓q_ty_list_dict, ↓q_ty_dict_int, ↓q_ty_dict_str, ↓q_ty_dict_bool, ↓q_ty_dict_tuple, ↓q_ty_dict_list, ↓q_ty_dict_dict, ↓q_kvs, ↓q_fit0, ↓q_fit1, ↓q_fit2, ↓q_fit3, ↓q_fit4, ↓q_fit5, ↓q_fit6, ↓q_fit7, ↓q_fit8, ↓q_fit9, ↓q_fit10, ↓q_fit11, ↓q_fit12, ↓q_fit13, ↓q_fit14, ↓q_fit15, ↓q_fit16, ↓q_fit17, ↓q_fit18, ↓q_fit19, ↓q_fit20, ↓q_fit21, ↓q_fit22, ↓q_fit23, ↓q_fit24, ↓q_fit25, ↓q_fit26, ↓q_fit27, ↓q_fit28, ↓q_fit29, ↓q_fit30, ↓q_fit31, ↓q_fit32, ↓q_fit33, ↓q_fit34, ↓q_fit35, ↓q_fit36, ↓q_fit37, ↓q_fit38, ↓q_fit39, ↓q_fit40, ↓q_putIo, ↓q_cl_nil, ↓q_cl_bor, ↓q_pio_nil, ↓q_pio_bor, ↓q_cl_var, ↓q_pio_var, ↓q_cl_non, ↓q_pio_non, ↓q_cl_bl, ↓q_pio_bl, ↓q_cl_int, ↓q_pio_int, ↓q_cl_str, ↓q_pio_str, ↓q_cl_nop, ↓q_pio_nop, ↓q_cl_glo, ↓q_pio_glo, ↓q_cl_tup, ↓q_pio_tup, ↓q_cl_lst, ↓q_pio_lst, ↓q_cl_dct, ↓q_pio_dct, ↓q_cl_bin, ↓q_pio_bin, ↓q_cl_neg, ↓q_pio_neg, ↓q_cl_cmp, ↓q_pio_cmp, ↓q_cl_chn, ↓q_pio_chn, ↓q_cl_nt, ↓q_pio_nt, ↓q_cl_an, ↓q_pio_an, ↓q_cl_orr, ↓q_pio_orr, ↓q_cl_ite, ↓q_pio_ite, ↓q_cl_ix, ↓q_pio_ix, ↓q_cl_sl, ↓q_pio_sl, ↓q_cl_rev, ↓q_pio_rev, ↓q_cl_cal, ↓q_pio_cal, ↓q_cl_b1, ↓q_pio_b1, ↓q_cl_b2, ↓q_pio_b2, ↓q_cl_isi, ↓q_pio_isi, ↓q_cl_m0, ↓q_pio_m0, ↓q_cl_m1, ↓q_pio_m1, ↓q_cl_m2, ↓q_pio_m2, ↓q_cl_mm0, ↓q_pio_mm0, ↓q_cl_mm1, ↓q_pio_mm1, ↓q_cl_cmpr, ↓q_pio_cmpr, ↓q_cl_gin, ↓q_pio_gin, ↓q_cl_gget, ↓q_pio_gget, q_fx_var, q_fx_non, q_fx_bl, q_fx_int, q_fx_str, q_fx_nop, q_fx_glo, q_fx_tup, q_fx_lst, q_fx_dct, q_fx_bin, q_fx_neg, q_fx_cmp, q_fx_chn, q_fx_nt, q_fx_an, q_fx_orr, q_fx_ite, q_fx_ix, q_fx_sl, q_fx_rev, q_fx_cal, q_fx_b1, q_fx_b2, q_fx_isi, q_fx_m0, q_fx_m1, q_fx_m2, q_fx_mm0, q_fx_mm1, q_fx_cmpr, q_fx_gin, q_fx_gget, q_fx_bor, q_fxs_nil, q_fxs_cons, q_lk_z, q_lk_s, q_wO_s, q_ixO_nop, q_ixO_var, q_ixO_non, q_ixO_bl, q_ixO_int, q_ixO_str, q_ixO_glo, q_ixO_tup, q_ixO_lst, q_ixO_dct, q_ixO_bin, q_ixO_neg, q_ixO_cmp, q_ixO_chn, q_ixO_nt, q_ixO_an, q_ixO_orr, q_ixO_ite, q_ixO_ix, q_ixO_sl, q_ixO_rev, q_ixO_cal, q_ixO_b1, q_ixO_b2, q_ixO_isi, q_ixO_m0, q_ixO_m1, q_ixO_m2, q_ixO_mm0, q_ixO_mm1, q_ixO_cmpr, q_ixO_gin, q_ixO_gget, q_asgT_nm, q_asgT_tp, q_setAll_nil, q_setAll_cons, q_wT_non, q_wT_bl, q_wT_int, q_wT_tup, q_wT_lst, q_wT_str, q_wB_bl, q_wInt_int, q_bin_add, q_bin_sub, q_bin_mul, q_bin_mod, q_bin_fdiv, q_bin_pow, q_bin_adds, q_bin_addt, q_bin_addl, q_neg_int, q_cmp_lt, q_cmp_le, q_cmp_gt, q_cmp_ge, q_cmp_eq, q_cmp_ne, q_cmp_in, q_cmp_nin, q_cmp_is, q_cmp_isn, q_eq_int, q_eq_str, q_eq_tupn, q_eq_ntup, q_eq_lstn, q_in_str, q_ix_lst, q_ix_tup, q_ix_scr, q_ix_str, q_sl_tup, q_sl_lst, q_sl_scr, q_sl_str, q_rev_tup, q_rev_lst, q_rev_str, q_len_lst, q_len_tup, q_len_scr, q_len_str, q_abs_int, q_int_int, q_int_bl, q_str_int, q_all_lst, q_any_lst, q_tup_lst, q_tup_tup, q_lst_tup, q_lst_lst, q_rep_any, q_max_two, q_min_two, q_up_str, q_split_str, q_join_str, q_strip_str, q_index_lst, q_app_lst, q_ext_lst, q_pop_lst, q_ty_list, q_ty_str, q_ty_str2, q_ty_str3, q_ty_idx, q_set_lst, q_strO_str, q_it_tup, q_it_lst, q_it_scr, q_it_str, q_zip_st, q_zip_ll, q_zip_tt, q_enum_l, q_enum_t, q_isi_non, q_isi_bl, q_isi_int, q_isi_str, q_isi_tup, q_isi_lst, q_isi_dct, q_at0, q_at1, q_at2, q_at3, q_ixn0, q_ixn1, q_ixn2, q_ixn3, q_ixn4, q_ixn5, q_ixn6, q_ixn7, q_lkn, q_lkn0, q_lk0, q_lkS, q_wipe_nil, q_wipe_cons, q_back_nil, q_back_cons, q_ty_int_int, q_ty_int_str, q_ty_int_bool, q_ty_int_tuple, q_ty_int_list, q_ty_int_dict, q_ty_str_int, q_ty_str_str, q_ty_str_bool, q_ty_str_tuple, q_ty_str_list, q_ty_str_dict, q_ty_bool_int, q_ty_bool_str, q_ty_bool_bool, q_ty_bool_tuple, q_ty_bool_list, q_ty_bool_dict, q_ty_tuple_int, q_ty_tuple_str, q_ty_tuple_bool, q_ty_tuple_tuple, q_ty_tuple_list, q_ty_tuple_dict, q_ty_list_int, q_ty_list_str, q_ty_list_bool, q_ty_list_tuple, q_ty_list_list, q_ty_list_dict, q_ty_dict_int, q_ty_dict_str, q_ty_dict_bool, q_ty_dict_tuple, q_ty_dict_list, q_ty_dict_dict, q_kvs, q_fit0, q_fit1, q_fit2, q_fit3, q_fit4, q_fit5, q_fit6, q_fit7, q_fit8, q_fit9, q_fit10, q_fit11, q_fit12, q_fit13, q_fit14, q_fit15, q_fit16, q_fit17, q_fit18, q_fit19, q_fit20, q_fit21, q_fit22, q_fit23, q_fit24, q_fit25, q_fit26, q_fit27, q_fit28, q_fit29, q_fit30, q_fit31, q_fit32, q_fit33, q_fit34, q_fit35, q_fit36, q_fit37, q_fit38, q_fit39, q_fit40, q_putIo, q_cl_nil, q_cl_bor, q_pio_nil, q_pio_bor, q_cl_var, q_pio_var, q_cl_non, q_pio_non, q_cl_bl, q_pio_bl, q_cl_int, q_pio_int, q_cl_str, q_pio_str, q_cl_nop, q_pio_nop, q_cl_glo, q_pio_glo, q_cl_tup, q_pio_tup, q_cl_lst, q_pio_lst, q_cl_dct, q_pio_dct, q_cl_bin, q_pio_bin, q_cl_neg, q_pio_neg, q_cl_cmp, q_pio_cmp, q_cl_chn, q_pio_chn, q_cl_nt, q_pio_nt, q_cl_an, q_pio_an, q_cl_orr, q_pio_orr, q_cl_ite, q_pio_ite, q_cl_ix, q_pio_ix, q_cl_sl, q_pio_sl, q_cl_rev, q_pio_rev, q_cl_cal, q_pio_cal, q_cl_b1, q_pio_b1, q_cl_b2, q_pio_b2, q_cl_isi, q_pio_isi, q_cl_m0, q_pio_m0, q_cl_m1, q_pio_m1, q_cl_m2, q_pio_m2, q_cl_mm0, q_pio_mm0, q_cl_mm1, q_pio_mm1, q_cl_cmpr, q_pio_cmpr, q_cl_gin, q_pio_gin, q_cl_gget, q_pio_gget, List.set_cons_zero, List.set_cons_succ, List.length_cons, List.length_nil, List.map_cons, List.map_nil, List.replicate_succ, List.replicate_zero, List.cons_append, List.nil_append, List.take_succ_cons, List.take_zero, true_and, and_true, Bool.not_true, Bool.not_false, if_true, Bool.false_eq_true, if_false, cond_true, cond_false, List.isEmpty_cons, List.isEmpty_nil, Option.isNone_some, Bool.or_true, Bool.true_or, Bool.or_false, Bool.false_or, Bool.and_true, Bool.true_and, Bool.and_false, Bool.false_and, Nat.reduceAdd, Nat.reduceSub, Nat.reduceLT, Nat.reduceLeDiff, Nat.zero_add, Int.reduceLT, Int.reduceLE, reduceCtorEq, decide_eq_true_eq, Nat.lt_add_one, Nat.zero_lt_succ, *])
/-! QG: drawn ways, items, deeds -/
theorem gd_name {s : Str} (h : isNm s = true) : Gd 10 0 (.str s) := by
  unfold isNm at h
  simp only [Bool.and_eq_true, decide_eq_true_eq, List.all_eq_true] at h
  refine ⟨by rw [wt, str_size]; omega, by simp [pln], ?_⟩
  show ascS s = true
  unfold ascS
  rw [List.all_eq_true]
  intro c hc
  have := h.2 c hc
  exact decide_eq_true (by omega)
theorem gd_small {i : Int} (h0 : 0 ≤ i) (h1 : i < 4) : Gd 10 0 (.int i) := by
  have h : i = 0 ∨ i = 1 ∨ i = 2 ∨ i = 3 := by omega
  rcases h with rfl | rfl | rfl | rfl <;> exact ⟨by simp only [wt]; decide +kernel, by simp [pln], by simp [asc]⟩
section
variable {G : List D} {fns : List Fn} {wf n f : Nat} {Q : D → PD.Env → Prop} {X : XQ} {dk : D}
/-- _law_ways -/
def waysFn (iP : Nat) : Fn := ⟨1, 2, [true, false], false,
      (.cons (.ret (.m1 .join (.str "") (.cmpr (.cal iP (.cons (.bor 0) (.cons (.str "abc") .nil))) (.nm 1) [1] (.rng1 (.int 3)) (.bl true))))
      .nil)⟩
theorem abc_mem {c : Nat} (h : c ∈ ("abc" : Str).cps.toList) : c = 97 ∨ c = 98 ∨ c = 99 := by
  have e : ("abc" : Str).cps.toList = [97, 98, 99] := by decide +kernel
  rw [e] at h
  simpa using h
theorem ways_w {c : Int} {iP iD : Nat} (hF : fns[f]? = some (waysFn iP)) (hP : fns[iP]? = some (pickFn iD)) (hD : fns[iD]? = some (drawFn c)) (hn : 3 ≤ n) (h : IsDeck dk)
    (k : ∀ (s : Str) (dk' : D), IsDeck dk' → wysS s = true → Q (.str s) [some dk']) : wC (callF G fns wf n f [dk]) Q X := by
  refine wC_callF hF (by omega) rfl ?_
  unfold waysFn
  walk_at "ev"
  refine ⟨by decide, fitn_of (by decide +kernel), ?_⟩
  refine wL_inv (fun i ys ρ => ∃ (dk : D) (L : List Nat) (u : Option D), IsDeck dk ∧ ρ = [some dk, u] ∧ ys = L.map (fun c => .str ⟨#[c]⟩) ∧ L.length = i ∧ ∀ c ∈ L, c ∈ ("abc" : Str).cps.toList) ⟨dk, [], none, h, rfl, rfl, rfl, by simp⟩ ?_ ?_
  · rintro i d ys ρ hd ⟨dk3, L, u, hd3, rfl, rfl, hL, hc⟩
    walk_at "ev"
    refine pick_str hP hD (by omega) hd3 (by decide +kernel) (by decide +kernel) fun z dk4 hd4 hz => ?_
    walk_at "ev"
    refine ⟨dk4, L ++ [z], _, hd4, rfl, by simp, by rw [List.length_append, hL]; rfl, fun c hc' => ?_⟩
    rcases List.mem_append.mp hc' with q | q
    · exact hc c q
    · rw [List.mem_singleton] at q
      rw [q]; exact hz
  · rintro ys ρ ⟨dk3, L, u, hd3, rfl, rfl, hL, hc⟩
    replace hL : L.length = 3 := by rw [hL]; decide
    have es : strsD (L.map fun c => D.str ⟨#[c]⟩) = some (L.map fun c => (⟨#[c]⟩ : Str)) := by
      rw [show (L.map fun c => D.str ⟨#[c]⟩) = (L.map fun c => (⟨#[c]⟩ : Str)).map D.str by rw [List.map_map]; rfl, strsD_map]
    have ej := join_ones L
    have esum := sum_ones L
    walk_at "ev"
    refine ⟨?_, k _ _ hd3 ?_⟩
    · have : (("" : String) : Str).length = 0 := by decide
      rw [this]; omega
    · unfold wysS
      rw [decide_eq_true (show (⟨L.toArray⟩ : Str).cps.toList.length = 3 from hL), Bool.true_and, List.all_eq_true]
      exact fun c hc' => decide_eq_true (hc c hc')
theorem gd_ways {s : Str} (h : wysS s = true) : Gd 10 0 (.str s) := by
  unfold wysS at h
  simp only [Bool.and_eq_true, decide_eq_true_eq, List.all_eq_true] at h
  refine ⟨by rw [wt, str_size]; omega, by simp [pln], ?_⟩
  show ascS s = true
  unfold ascS
  rw [List.all_eq_true]
  intro c hc
  have := abc_mem (h.2 c hc)
  exact decide_eq_true (by omega)
/-- _law_item -/
def itemFn (iP iD iW : Nat) : Fn := ⟨3, 3, [true, false, false], false,
      (.cons (.ite (.cmp .isin (.var 1) (.tup (.cons (.str "a") (.cons (.str "n") .nil))))
      (.cons (.ret (.cal iP (.cons (.bor 0) (.cons (.var 2) .nil))))
      .nil)
      .nil)
      (.cons (.ite (.cmp .eq (.var 1) (.str "e"))
      (.cons (.ret (.cal iD (.cons (.bor 0) (.cons (.int 3) .nil))))
      .nil)
      .nil)
      (.cons (.ite (.cmp .eq (.var 1) (.str "i"))
      (.cons (.ret (.cal iD (.cons (.bor 0) (.cons (.int 4) .nil))))
      .nil)
      .nil)
      (.cons (.ret (.ite (.cmp .eq (.var 1) (.str "w")) (.cal iP (.cons (.bor 0) (.cons (.str "abc") .nil))) (.cal iW (.cons (.bor 0) .nil))))
      .nil))))⟩
/-- what is drawn for a kind, over some names -/
structure ItemOk (L : List Str) (c : Nat) (d : D) : Prop where
  part : partB c d = true
  gd : Gd 10 0 d
  nm : (c = 97 ∨ c = 110) → ∃ s ∈ L, d = .str s
theorem item_w {c0 : Int} {iP iD iW c : Nat} {L : List Str} (hF : fns[f]? = some (itemFn iP iD iW)) (hP : fns[iP]? = some (pickFn iD)) (hD : fns[iD]? = some (drawFn c0)) (hW : fns[iW]? = some (waysFn iP)) (hn : 4 ≤ n) (h : IsDeck dk)
    (hc : c = 97 ∨ c = 110 ∨ c = 101 ∨ c = 105 ∨ c = 119 ∨ c = 118) (hL : ∀ s ∈ L, isNm s = true) (hl : 1 ≤ L.length) (hl2 : L.length ≤ 100)
    (k : ∀ (d dk' : D) (io : PD.Env), IsDeck dk' → ItemOk L c d → Q d (some dk' :: io)) : wC (callF G fns wf n f [dk, .str ⟨#[c]⟩, .lst (L.map .str)]) Q X := by
  refine wC_callF hF (by omega) rfl ?_
  unfold itemFn
  have i1 := in_strs (⟨#[c]⟩) ["a", "n"]
  simp only [List.map_cons, List.map_nil] at i1
  have e2 := one_eq c 101 "e" (by decide +kernel)
  have e3 := one_eq c 105 "i" (by decide +kernel)
  have e4 := one_eq c 119 "w" (by decide +kernel)
  have hll : (L.map D.str).length = L.length := by simp
  have fin : ∀ x ∈ L.map D.str, ∃ s ∈ L, x = .str s := fun x hx => by
    obtain ⟨s, hs, e⟩ := List.mem_map.mp hx
    exact ⟨s, hs, e.symm⟩
  rcases hc with rfl | rfl | rfl | rfl | rfl | rfl
  · rw [show (["a", "n"] : List Str).contains ⟨#[97]⟩ = true by decide +kernel] at i1
    walk_at "ev"
    refine pick_lst hP hD (by omega) h (by omega) (by omega) fun x dk' hd hx => ?_
    obtain ⟨s, hs, rfl⟩ := fin x hx
    walk_at "ev"
    exact k _ _ _ hd ⟨hL s hs, gd_name (hL s hs), fun _ => ⟨s, hs, rfl⟩⟩
  · rw [show (["a", "n"] : List Str).contains ⟨#[110]⟩ = true by decide +kernel] at i1
    walk_at "ev"
    refine pick_lst hP hD (by omega) h (by omega) (by omega) fun x dk' hd hx => ?_
    obtain ⟨s, hs, rfl⟩ := fin x hx
    walk_at "ev"
    exact k _ _ _ hd ⟨hL s hs, gd_name (hL s hs), fun _ => ⟨s, hs, rfl⟩⟩
  · rw [show (["a", "n"] : List Str).contains ⟨#[101]⟩ = false by decide +kernel] at i1
    rw [show decide (101 = 101) = true from rfl] at e2
    walk_at "ev"
    refine draw_w hD (by omega) h (by decide) (by decide) fun x dk' hd x0 x1 => ?_
    walk_at "ev"
    refine k _ _ _ hd ⟨?_, gd_small x0 (by omega), fun z => by omega⟩
    show (decide (0 ≤ x) && decide (x < 3)) = true
    rw [decide_eq_true x0, decide_eq_true x1]; rfl
  · rw [show (["a", "n"] : List Str).contains ⟨#[105]⟩ = false by decide +kernel] at i1
    rw [show decide (105 = 101) = false from rfl] at e2
    rw [show decide (105 = 105) = true from rfl] at e3
    walk_at "ev"
    refine draw_w hD (by omega) h (by decide) (by decide) fun x dk' hd x0 x1 => ?_
    walk_at "ev"
    refine k _ _ _ hd ⟨?_, gd_small x0 (by omega), fun z => by omega⟩
    show (decide (0 ≤ x) && decide (x < 4)) = true
    rw [decide_eq_true x0, decide_eq_true x1]; rfl
  · rw [show (["a", "n"] : List Str).contains ⟨#[119]⟩ = false by decide +kernel] at i1
    rw [show decide (119 = 101) = false from rfl] at e2
    rw [show decide (119 = 105) = false from rfl] at e3
    rw [show decide (119 = 119) = true from rfl] at e4
    walk_at "ev"
    refine pick_str hP hD (by omega) h (by decide +kernel) (by decide +kernel) fun x dk' hd hx => ?_
    walk_at "ev"
    have hx' := abc_mem hx
    refine k _ _ _ hd ⟨?_, ?_, fun z => by omega⟩
    · show ([("a" : Str), "b", "c"] : List Str).contains ⟨#[x]⟩ = true
      rcases hx' with rfl | rfl | rfl <;> decide +kernel
    · rcases hx' with rfl | rfl | rfl <;> exact ⟨by simp only [wt]; decide +kernel, by simp [pln], by simp [asc, ascS]⟩
  · rw [show (["a", "n"] : List Str).contains ⟨#[118]⟩ = false by decide +kernel] at i1
    rw [show decide (118 = 101) = false from rfl] at e2
    rw [show decide (118 = 105) = false from rfl] at e3
    rw [show decide (118 = 119) = false from rfl] at e4
    walk_at "ev"
    refine ways_w hW hP hD (by omega) h fun s dk' hd hs => ?_
    walk_at "ev"
    exact k _ _ _ hd ⟨hs, gd_ways hs, fun z => by omega⟩
/-- _law_deed -/
def deedFn (iP iI iR : Nat) : Fn := ⟨3, 5, [true, false, false, false, false], false,
      (.cons (.asg (.nm 3) (.cal iP (.cons (.bor 0) (.cons (.var 2) .nil))))
      (.cons (.ret (.bin .add (.tup (.cons (.var 3) .nil)) (.b1 .tuple (.cmpr (.cal iI (.cons (.bor 0) (.cons (.var 4) (.cons (.var 1) .nil)))) (.nm 4) [4] (.ex (.cal iR (.cons (.var 3) .nil))) (.bl true)))))
      .nil))⟩
structure DeedOk (L : List Str) (w ks : Str) (items : List D) : Prop where
  look : look w = some ks
  len : items.length = ks.cps.toList.length
  item : ∀ (i c : Nat) (d : D), ks.cps.toList[i]? = some c → items[i]? = some d → ItemOk L c d
theorem deed_w {c0 : Int} {iP iD iW iI iR : Nat} {L W : List Str} (hF : fns[f]? = some (deedFn iP iI iR)) (hI : fns[iI]? = some (itemFn iP iD iW)) (hR : fns[iR]? = some partsFn) (hP : fns[iP]? = some (pickFn iD)) (hD : fns[iD]? = some (drawFn c0)) (hW : fns[iW]? = some (waysFn iP)) (hn : 5 ≤ n) (h : IsDeck dk)
    (hL : ∀ s ∈ L, isNm s = true) (hl : 1 ≤ L.length) (hl2 : L.length ≤ 100) (w1 : 1 ≤ W.length) (w2 : W.length ≤ 100) (hw : ∀ s ∈ W, ∃ ks, look s = some ks)
    (k : ∀ (w ks : Str) (items : List D) (dk' : D) (io : PD.Env), IsDeck dk' → w ∈ W → DeedOk L w ks items → Q (.tup (.str w :: items)) (some dk' :: io)) : wC (callF G fns wf n f [dk, .lst (L.map .str), .lst (W.map .str)]) Q X := by
  refine wC_callF hF (by omega) rfl ?_
  unfold deedFn
  walk_at "ev"
  refine pick_lst hP hD (by omega) h (by rw [List.length_map]; omega) (by rw [List.length_map]; omega) fun x dk1 hd1 hx => ?_
  obtain ⟨w, hwm, rfl⟩ := List.mem_map.mp hx
  obtain ⟨ks, hk⟩ := hw w hwm
  walk_at "ev"
  refine parts_w hR (by omega) hk fun io => ?_
  walk_at "ev"
  have hcl : (charsD ks).length = ks.cps.toList.length := by simp [charsD]
  have hs6 := look_short hk
  refine ⟨fitn_of (by omega), ?_⟩
  refine wL_inv (fun i ys ρ => ∃ (dk : D) (u : Option D), IsDeck dk ∧ ρ = [some dk, some (.lst (L.map .str)), some (.lst (W.map .str)), some (.str w), u] ∧ ys.length = i ∧ ∀ (i c : Nat) (d : D), ks.cps.toList[i]? = some c → ys[i]? = some d → ItemOk L c d) ⟨dk1, none, hd1, rfl, rfl, fun i c d _ z => by simp at z⟩ ?_ ?_
  · rintro i d ys ρ hd ⟨dk2, u, hd2, rfl, hlen, hit⟩
    unfold charsD at hd
    rw [List.getElem?_map] at hd
    cases hz : ks.cps.toList[i]? with
    | none => rw [hz] at hd; cases hd
    | some c =>
      rw [hz] at hd
      cases hd
      walk_at "ev"
      refine item_w hI hP hD hW (by omega) hd2 (look_kinds hk c (List.mem_of_getElem? hz)) hL hl hl2 fun d dk3 io hd3 hok => ?_
      walk_at "ev"
      refine ⟨dk3, _, hd3, rfl, by rw [List.length_append, hlen]; rfl, fun i' c' d' h1 h2 => ?_⟩
      by_cases hlt : i' < ys.length
      · rw [List.getElem?_append_left hlt] at h2
        exact hit i' c' d' h1 h2
      · rw [List.getElem?_append_right (by omega)] at h2
        have e0 : i' - ys.length = 0 := by
          have := (List.getElem?_eq_some_iff.mp h2).1
          simp at this
          omega
        rw [e0] at h2
        have : i' = i := by omega
        subst this
        rw [hz] at h1
        cases h1
        cases h2
        exact hok
  · rintro ys ρ ⟨dk2, u, hd2, rfl, hlen, hit⟩
    walk_at "ev"
    refine ⟨fitn_of (by omega), ?_⟩
    exact k w ks ys dk2 _ hd2 hwm ⟨hk, by rw [hlen, hcl], hit⟩
theorem wtL_le (B : Nat) : ∀ {ds : List D}, (∀ x ∈ ds, wt x ≤ B) → wtL ds ≤ (B + 2) * ds.length
  | [], _ => by simp [wtL]
  | d :: ds, h => by
    have := wtL_le B (ds := ds) fun x hx => h x (List.mem_cons_of_mem _ hx)
    have := h d (List.mem_cons_self ..)
    rw [wtL, List.length_cons, Nat.mul_add]
    omega
theorem look_word {w ks : Str} (h : look w = some ks) : Gd 10 0 (.str w) := by
  have q : TAB.all (fun p => decide (p.1.cps.toList.length ≤ 8) && ascS p.1) = true := by decide +kernel
  have := List.all_eq_true.mp q _ (look_mem h)
  simp only [Bool.and_eq_true, decide_eq_true_eq] at this
  exact ⟨by rw [wt, str_size]; omega, by simp [pln], this.2⟩
theorem DeedOk.gd {L : List Str} {w ks : Str} {items : List D} (h : DeedOk L w ks items) : Gd 100 1 (.tup (.str w :: items)) := by
  have hs6 := look_short h.look
  have all : ∀ x ∈ (.str w :: items), Gd 10 0 x := fun x hx => by
    rcases List.mem_cons.mp hx with e | e
    · rw [e]; exact look_word h.look
    · obtain ⟨i, hi, e2⟩ := List.getElem_of_mem e
      have h1 : items[i]? = some x := by rw [List.getElem?_eq_getElem hi, e2]
      have hi2 : i < ks.cps.toList.length := by rw [← h.len]; exact hi
      exact (h.item i _ x (List.getElem?_eq_getElem hi2) h1).gd
  refine ⟨?_, ?_, ?_⟩
  · have := wtL_le 10 fun x hx => (all x hx).w
    rw [List.length_cons] at this
    rw [wt]
    have := h.len
    omega
  · rw [pln]
    exact plnL_all fun x hx => (all x hx).p
  · show ascL _ = true
    exact ascL_all fun x hx => (all x hx).a
end
end PD
end

section
set_option Elab.async false
set_option linter.all false
set_option maxRecDepth 100000
set_option maxHeartbeats 1000000
namespace PD
open PySem PySem.Spec PyProof.Rows L2
local macro_rules | `(tactic| walk_at "ev") => `(tactic| simp only [↓wE_lockd, ↓wE_sdf, ↓wE_var, ↓wE_bor, ↓wE_non, ↓wE_nop, ↓wE_bl, ↓wE_int, ↓wE_str, ↓wE_glo, ↓wE_tup, ↓wE_lst, ↓wE_dct, ↓wE_bin, ↓wE_neg, ↓wE_cmp, ↓wE_chn, ↓wE_nt, ↓wE_an, ↓wE_orr, ↓wE_ite, ↓wE_ix, ↓wE_sl, ↓wE_rev, ↓wE_cal, ↓wE_b1, ↓wE_b2, ↓wE_isi, ↓wE_m0, ↓wE_m1, ↓wE_mm0, ↓wE_mm1, ↓wE_cmpr, ↓wE_gin, ↓wE_gget, ↓wEs_nil, ↓wEs_cons, ↓wI_ex, ↓wI_rng1, ↓wI_rng2, ↓wI_zip, ↓wI_enum, ↓wS_asg, ↓wS_own, ↓wS_par, ↓wS_setix, ↓wS_expr, ↓wS_ite, ↓wS_whl, ↓wS_fr, ↓wS_ret, ↓wS_retN, ↓wS_retO, ↓wS_pass, ↓wS_brk, ↓wS_cnt, ↓wSs_nil, ↓wSs_cons, ↓q_fx_lockd, ↓q_fx_sdf, ↓q_fx_var, ↓q_fx_non, ↓q_fx_bl, ↓q_fx_int, ↓q_fx_str, ↓q_fx_nop, ↓q_fx_glo, ↓q_fx_tup, ↓q_fx_lst, ↓q_fx_dct, ↓q_fx_bin, ↓q_fx_neg, ↓q_fx_cmp, ↓q_fx_chn, ↓q_fx_nt, ↓q_fx_an, ↓q_fx_orr, ↓q_fx_ite, ↓q_fx_ix, ↓q_fx_sl, ↓q_fx_rev, ↓q_fx_cal, ↓q_fx_b1, ↓q_fx_b2, ↓q_fx_isi, ↓q_fx_m0, ↓q_fx_m1, ↓q_fx_m2, ↓q_fx_mm0, ↓q_fx_mm1, ↓q_fx_cmpr, ↓q_fx_gin, ↓q_fx_gget, ↓q_fx_bor, ↓q_fxs_nil, ↓q_fxs_cons, ↓q_lk_z, ↓q_lk_s, ↓q_wO_s, ↓q_ixO_nop, ↓q_ixO_lockd, ↓q_ixO_sdf, ↓q_ixO_var, ↓q_ixO_non, ↓q_ixO_bl, ↓q_ixO_int, ↓q_ixO_str, ↓q_ixO_glo, ↓q_ixO_tup, ↓q_ixO_lst, ↓q_ixO_dct, ↓q_ixO_bin, ↓q_ixO_neg, ↓q_ixO_cmp, ↓q_ixO_chn, ↓q_ixO_nt, ↓q_ixO_an, ↓q_ixO_orr, ↓q_ixO_ite, ↓q_ixO_ix, ↓q_ixO_sl, ↓q_ixO_rev, ↓q_ixO_cal, ↓q_ixO_b1, ↓q_ixO_b2, ↓q_ixO_isi, ↓q_ixO_m0, ↓q_ixO_m1, ↓q_ixO_m2, ↓q_ixO_mm0, ↓q_ixO_mm1, ↓q_ixO_cmpr, ↓q_ixO_gin, ↓q_ixO_gget, ↓q_asgT_nm, ↓q_asgT_tp, ↓q_asgT_tl, ↓q_it_fz, ↓q_ix_fz, ↓q_ix_dct, ↓q_srt, ↓q_sst, ↓q_sdf, ↓q_dctO, ↓q_setAll_nil, ↓q_setAll_cons, ↓q_wT_non, ↓q_wT_bl, ↓q_wT_int, ↓q_wT_tup, ↓q_wT_lst, ↓q_wT_str, ↓q_wB_bl, ↓q_wInt_int, ↓q_bin_add, ↓q_bin_sub, ↓q_bin_mul, ↓q_bin_mod, ↓q_bin_fdiv, ↓q_bin_pow, ↓q_bin_adds, ↓q_bin_addt, ↓q_bin_addl, ↓q_neg_int, ↓q_cmp_lt, ↓q_cmp_le, ↓q_cmp_gt, ↓q_cmp_ge, ↓q_cmp_eq, ↓q_cmp_ne, ↓q_cmp_in, ↓q_cmp_nin, ↓q_cmp_is, ↓q_cmp_isn, ↓q_eq_int, ↓q_eq_str, ↓q_eq_tupn, ↓q_eq_ntup, ↓q_eq_lstn, ↓q_in_str, ↓q_ix_lst, ↓q_ix_tup, ↓q_ix_scr, ↓q_ix_str, ↓q_sl_tup, ↓q_sl_lst, ↓q_sl_scr, ↓q_sl_str, ↓q_rev_tup, ↓q_rev_lst, ↓q_rev_str, ↓q_len_lst, ↓q_len_tup, ↓q_len_scr, ↓q_len_str, ↓q_abs_int, ↓q_int_int, ↓q_int_bl, ↓q_str_int, ↓q_all_lst, ↓q_any_lst, ↓q_tup_lst, ↓q_tup_tup, ↓q_lst_tup, ↓q_lst_lst, ↓q_rep_any, ↓q_max_two, ↓q_min_two, ↓q_up_str, ↓q_split_str, ↓q_join_str, ↓q_strip_str, ↓q_index_lst, ↓q_app_lst, ↓q_ext_lst, ↓q_pop_lst, ↓q_ty_list, ↓q_ty_str, ↓q_ty_str2, ↓q_ty_str3, ↓q_ty_idx, ↓q_set_lst, ↓q_strO_str, ↓q_it_tup, ↓q_it_lst, ↓q_it_scr, ↓q_it_str, ↓q_zip_st, ↓q_zip_ll, ↓q_zip_tt, ↓q_enum_l, ↓q_enum_t, ↓q_isi_non, ↓q_isi_bl, ↓q_isi_int, ↓q_isi_str, ↓q_isi_tup, ↓q_isi_lst, ↓q_isi_dct, ↓q_at0, ↓q_at1, ↓q_at2, ↓q_at3, ↓q_ixn0, ↓q_ixn1, ↓q_ixn2, ↓q_ixn3, ↓q_ixn4, ↓q_ixn5, ↓q_ixn6, ↓q_ixn7, ↓q_lkn, ↓q_lkn0, ↓q_lk0, ↓q_lkS, ↓q_wipe_nil, ↓q_wipe_cons, ↓q_back_nil, ↓q_back_cons, ↓q_ty_int_int, ↓q_ty_int_str, ↓q_ty_int_bool, ↓q_ty_int_tuple, ↓q_ty_int_list, ↓q_ty_int_dict, ↓q_ty_str_int, ↓q_ty_str_str, ↓q_ty_str_bool, ↓q_ty_str_tuple, ↓q_ty_str_list, ↓q_ty_str_dict, ↓q_ty_bool_int, ↓q_ty_bool_str, ↓q_ty_bool_bool, ↓q_ty_bool_tuple, ↓q_ty_bool_list, ↓q_ty_bool_dict, ↓q_ty_tuple_int, ↓q_ty_tuple_str, ↓q_ty_tuple_bool, ↓q_ty_tuple_tuple, ↓q_ty_tuple_list, ↓q_ty_tuple_dict, ↓q_ty_list_int, ↓q_ty_list_str, ↓q_ty_list_bool, ↓q_ty_list_tuple, ↓q_ty_list_list, ↓q_ty_list_dict, ↓q_ty_dict_int, ↓q_ty_dict_str, ↓q_ty_dict_bool, ↓q_ty_dict_tuple, ↓q_ty_dict_list, ↓q_ty_dict_dict, ↓q_kvs, ↓q_fit0, ↓q_fit1, ↓q_fit2, ↓q_fit3, ↓q_fit4, ↓q_fit5, ↓q_fit6, ↓q_fit7, ↓q_fit8, ↓q_fit9, ↓q_fit10, ↓q_fit11, ↓q_fit12, ↓q_fit13, ↓q_fit14, ↓q_fit15, ↓q_fit16, ↓q_fit17, ↓q_fit18, ↓q_fit19, ↓q_fit20, ↓q_fit21, ↓q_fit22, ↓q_fit23, ↓q_fit24, ↓q_fit25, ↓q_fit26, ↓q_fit27, ↓q_fit28, ↓q_fit29, ↓q_fit30, ↓q_fit31, ↓q_fit32, ↓q_fit33, ↓q_fit34, ↓q_fit35, ↓q_fit36, ↓q_fit37, ↓q_fit38, ↓q_fit39, ↓q_fit40, ↓q_putIo, ↓q_cl_nil, ↓q_cl_bor, ↓q_pio_nil, ↓q_pio_bor, ↓q_cl_lockd, ↓q_pio_lockd, ↓q_cl_sdf, ↓q_pio_sdf, ↓q_cl_var, ↓q_pio_var, ↓q_cl_non, ↓q_pio_non, ↓q_cl_bl, ↓q_pio_bl, ↓q_cl_int, ↓q_pio_int, ↓q_cl_str, ↓q_pio_str, ↓q_cl_nop, ↓q_pio_nop, ↓q_cl_glo, ↓q_pio_glo, ↓q_cl_tup, ↓q_pio_tup, ↓q_cl_lst, ↓q_pio_lst, ↓q_cl_dct, ↓q_pio_dct, ↓q_cl_bin, ↓q_pio_bin, ↓q_cl_neg, ↓q_pio_neg, ↓q_cl_cmp, ↓q_pio_cmp, ↓q_cl_chn, ↓q_pio_chn, ↓q_cl_nt, ↓q_pio_nt, ↓q_cl_an, ↓q_pio_an, ↓q_cl_orr, ↓q_pio_orr, ↓q_cl_ite, ↓q_pio_ite, ↓q_cl_ix, ↓q_pio_ix, ↓q_cl_sl, ↓q_pio_sl, ↓q_cl_rev, ↓q_pio_rev, ↓q_cl_cal, ↓q_pio_cal, ↓q_cl_b1, ↓q_pio_b1, ↓q_cl_b2, ↓q_pio_b2, ↓q_cl_isi, ↓q_pio_isi, ↓q_cl_m0, ↓q_pio_m0, ↓q_cl_m1, ↓q_pio_m1, ↓q_cl_m2, ↓q_pio_m2, ↓q_cl_mm0, ↓q_pio_mm0, ↓q_cl_mm1, ↓q_pio_mm1, ↓q_cl_cmpr, ↓q_pio_cmpr, ↓q_cl_gin, ↓q_pio_gin, ↓q_cl_gget, ↓q_pio_gget, q_fx_lockd, q_fx_sdf, q_fx_var, q_fx_non, q_fx_bl, q_fx_int, q_fx_str, q_fx_nop, q_fx_glo, q_fx_tup, q_fx_lst, q_fx_dct, q_fx_bin, q_fx_neg, q_fx_cmp, q_fx_chn, q_fx_nt, q_fx_an, q_fx_orr, q_fx_ite, q_fx_ix, q_fx_sl, q_fx_rev, q_fx_cal, q_fx_b1, q_fx_b2, q_fx_isi, q_fx_m0, q_fx_m1, q_fx_m2, q_fx_mm0, q_fx_mm1, q_fx_cmpr, q_fx_gin, q_fx_gget, q_fx_bor, q_fxs_nil, q_fxs_cons, q_lk_z, q_lk_s, q_wO_s, q_ixO_nop, q_ixO_lockd, q_ixO_sdf, q_ixO_var, q_ixO_non, q_ixO_bl, q_ixO_int, q_ixO_str, q_ixO_glo, q_ixO_tup, q_ixO_lst, q_ixO_dct, q_ixO_bin, q_ixO_neg, q_ixO_cmp, q_ixO_chn, q_ixO_nt, q_ixO_an, q_ixO_orr, q_ixO_ite, q_ixO_ix, q_ixO_sl, q_ixO_rev, q_ixO_cal, q_ixO_b1, q_ixO_b2, q_ixO_isi, q_ixO_m0, q_ixO_m1, q_ixO_m2, q_ixO_mm0, q_ixO_mm1, q_ixO_cmpr, q_ixO_gin, q_ixO_gget, q_asgT_nm, q_asgT_tp, q_asgT_tl, q_it_fz, q_ix_fz, q_ix_dct, q_srt, q_sst, q_sdf, q_dctO, q_setAll_nil, q_setAll_cons, q_wT_non, q_wT_bl, q_wT_int, q_wT_tup, q_wT_lst, q_wT_str, q_wB_bl, q_wInt_int, q_bin_add, q_bin_sub, q_bin_mul, q_bin_mod, q_bin_fdiv, q_bin_pow, q_bin_adds, q_bin_addt, q_bin_addl, q_neg_int, q_cmp_lt, q_cmp_le, q_cmp_gt, q_cmp_ge, q_cmp_eq, q_cmp_ne, q_cmp_in, q_cmp_nin, q_cmp_is, q_cmp_isn, q_eq_int, q_eq_str, q_eq_tupn, q_eq_ntup, q_eq_lstn, q_in_str, q_ix_lst, q_ix_tup, q_ix_scr, q_ix_str, q_sl_tup, q_sl_lst, q_sl_scr, q_sl_str, q_rev_tup, q_rev_lst, q_rev_str, q_len_lst, q_len_tup, q_len_scr, q_len_str, q_abs_int, q_int_int, q_int_bl, q_str_int, q_all_lst, q_any_lst, q_tup_lst, q_tup_tup, q_lst_tup, q_lst_lst, q_rep_any, q_max_two, q_min_two, q_up_str, q_split_str, q_join_str, q_strip_str, q_index_lst, q_app_lst, q_ext_lst, q_pop_lst, q_ty_list, q_ty_str, q_ty_str2, q_ty_str3, q_ty_idx, q_set_lst, q_strO_str, q_it_tup, q_it_lst, q_it_scr, q_it_str, q_zip_st, q_zip_ll, q_zip_tt, q_enum_l, q_enum_t, q_isi_non, q_isi_bl, q_isi_int, q_isi_str, q_isi_tup, q_isi_lst, q_isi_dct, q_at0, q_at1, q_at2, q_at3, q_ixn0, q_ixn1, q_ixn2, q_ixn3, q_ixn4, q_ixn5, q_ixn6, q_ixn7, q_lkn, q_lkn0, q_lk0, q_lkS, q_wipe_nil, q_wipe_cons, q_back_nil, q_back_cons, q_ty_int_int, q_ty_int_str, q_ty_int_bool, q_ty_int_tuple, q_ty_int_list, q_ty_int_dict, q_ty_str_int, q_ty_str_str, q_ty_str_bool, q_ty_str_tuple, q_ty_str_list, q_ty_str_dict, q_ty_bool_int, q_ty_bool_str, q_ty_bool_bool, q_ty_bool_tuple, q_ty_bool_list, q_ty_bool_dict, q_ty_tuple_int, q_ty_tuple_str, q_ty_tuple_bool, q_ty_tuple_tuple, q_ty_tuple_list, q_ty_tuple_dict, q_ty_list_int, q_ty_list_str, q_ty_list_bool, q_ty_list_tuple, q_ty_list_list, q_ty_list_dict, q_ty_dict_int, q_ty_dict_str, q_ty_dict_bool, q_ty_dict_tuple, q_ty_dict_list, q_ty_dict_dict, q_kvs, q_fit0, q_fit1, q_fit2, q_fit3, q_fit4, q_fit5, q_fit6, q_fit7, q_fit8, q_fit9, q_fit10, q_fit11, q_fit12, q_fit13, q_fit14, q_fit15, q_fit16, q_fit17, q_fit18, q_fit19, q_fit20, q_fit21, q_fit22, q_fit23, q_fit24, q_fit25, q_fit26, q_fit27, q_fit28, q_fit29, q_fit30, q_fit31, q_fit32, q_fit33, q_fit34, q_fit35, q_fit36, q_fit37, q_fit38, q_fit39, q_fit40, q_putIo, q_cl_nil, q_cl_bor, q_pio_nil, q_pio_bor, q_cl_lockd, q_pio_lockd, q_cl_sdf, q_pio_sdf, q_cl_var, q_pio_var, q_cl_non, q_pio_non, q_cl_bl, q_pio_bl, q_cl_int, q_pio_int, q_cl_str, q_pio_str, q_cl_nop, q_pio_nop, q_cl_glo, q_pio_glo, q_cl_tup, q_pio_tup, q_cl_lst, q_pio_lst, q_cl_dct, q_pio_dct, q_cl_bin, q_pio_bin, q_cl_neg, q_pio_neg, q_cl_cmp, q_pio_cmp, q_cl_chn, q_pio_chn, q_cl_nt, q_pio_nt, q_cl_an, q_pio_an, q_cl_orr, q_pio_orr, q_cl_ite, q_pio_ite, q_cl_ix, q_pio_ix, q_cl_sl, q_pio_sl, q_cl_rev, q_pio_rev, q_cl_cal, q_pio_cal, q_cl_b1, q_pio_b1, q_cl_b2, q_pio_b2, q_cl_isi, q_pio_isi, q_cl_m0, q_pio_m0, q_cl_m1, q_pio_m1, q_cl_m2, q_pio_m2, q_cl_mm0, q_pio_mm0, q_cl_mm1, q_pio_mm1, q_cl_cmpr, q_pio_cmpr, q_cl_gin, q_pio_gin, q_cl_gget, q_pio_gget, List.set_cons_zero, List.set_cons_succ, List.length_cons, List.length_nil, List.map_cons, List.map_nil, List.replicate_succ, List.replicate_zero, List.cons_append, List.nil_append, List.take_succ_cons, List.take_zero, true_and, and_true, Bool.not_true, Bool.not_false, if_true, Bool.false_eq_true, if_false, cond_true, cond_false, List.isEmpty_cons, List.isEmpty_nil, Option.isNone_some, Bool.or_true, Bool.true_or, Bool.or_false, Bool.false_or, Bool.and_true, Bool.true_and, Bool.and_false, Bool.false_and, Nat.reduceAdd, Nat.reduceSub, Nat.reduceLT, Nat.reduceLeDiff, Nat.zero_add, Int.reduceLT, Int.reduceLE, reduceCtorEq, decide_eq_true_eq, Nat.lt_add_one, Nat.zero_lt_succ, *])
/-! QN: names that come and names that stand, in order -/
theorem hasS_mem {x : Str} {L : List Str} (h : x ∈ L) : hasS x L = L := if_pos h
theorem hasS_new {x : Str} {L : List Str} (h : x ∉ L) : hasS x L = L ++ [x] := if_neg h
/-- a dict from names to booleans, by setdefault -/
def sdB (C : List (Str × Bool)) (b : Bool) (z : Str) : List (Str × Bool) := if z ∈ C.map (·.1) then C else C ++ [(z, b)]
def fls (C : List (Str × Bool)) : List Str := (C.filter fun p => !p.2).map (·.1)
def trs (C : List (Str × Bool)) : List Str := (C.filter fun p => p.2).map (·.1)
theorem mem_keys {C : List (Str × Bool)} {z : Str} : z ∈ C.map (·.1) ↔ z ∈ fls C ∨ z ∈ trs C := by
  unfold fls trs
  simp only [List.mem_map, List.mem_filter]
  constructor
  · rintro ⟨p, hp, e⟩
    cases hb : p.2 with
    | false => exact .inl ⟨p, ⟨hp, by rw [hb]; rfl⟩, e⟩
    | true => exact .inr ⟨p, ⟨hp, hb⟩, e⟩
  · rintro (⟨p, ⟨hp, _⟩, e⟩ | ⟨p, ⟨hp, _⟩, e⟩) <;> exact ⟨p, hp, e⟩
theorem fls_app (C : List (Str × Bool)) (z : Str) (b : Bool) : fls (C ++ [(z, b)]) = if b then fls C else fls C ++ [z] := by
  unfold fls
  rw [List.filter_append, List.map_append]
  cases b <;> simp
theorem trs_app (C : List (Str × Bool)) (z : Str) (b : Bool) : trs (C ++ [(z, b)]) = if b then trs C ++ [z] else trs C := by
  unfold trs
  rw [List.filter_append, List.map_append]
  cases b <;> simp
theorem sdB_true {C : List (Str × Bool)} {z : Str} : fls (sdB C true z) = fls C ∧ trs (sdB C true z) = if z ∈ fls C ++ trs C then trs C else trs C ++ [z] := by
  unfold sdB
  by_cases h : z ∈ C.map (·.1)
  · have h2 : z ∈ fls C ++ trs C := List.mem_append.mpr (mem_keys.mp h)
    rw [if_pos h, if_pos h2]
    exact ⟨rfl, rfl⟩
  · have h2 : z ∉ fls C ++ trs C := fun q => h (mem_keys.mpr (List.mem_append.mp q))
    rw [if_neg h, if_neg h2, fls_app, trs_app]
    exact ⟨rfl, rfl⟩
theorem sdB_false {C : List (Str × Bool)} {z : Str} : trs (sdB C false z) = trs C ∧ fls (sdB C false z) = if z ∈ trs C then fls C else hasS z (fls C) := by
  unfold sdB
  by_cases h : z ∈ C.map (·.1)
  · rw [if_pos h]
    refine ⟨rfl, ?_⟩
    by_cases h2 : z ∈ trs C
    · rw [if_pos h2]
    · rw [if_neg h2, hasS_mem ((mem_keys.mp h).resolve_right h2)]
  · have h1 : z ∉ fls C := fun q => h (mem_keys.mpr (.inl q))
    have h2 : z ∉ trs C := fun q => h (mem_keys.mpr (.inr q))
    rw [if_neg h, if_neg h2, hasS_new h1, fls_app, trs_app]
    exact ⟨rfl, rfl⟩
theorem dedS_app (xs : List Str) (x : Str) : dedS (xs ++ [x]) = hasS x (dedS xs) := dedS_snoc xs x
/-- the names that stand, of one deed: the dict's way and the lists' way come to the same -/
theorem fold_as (old0 new : List Str) : ∀ (as cur : List Str) (C : List (Str × Bool)), fls C = dedS cur → trs C = new → (∀ z ∈ old0, z ∈ cur) →
    fls (as.foldl (fun C z => sdB C false z) C) = dedS (cur ++ as.filter fun z => !decide (z ∈ old0 ++ new)) ∧ trs (as.foldl (fun C z => sdB C false z) C) = new
  | [], cur, C, h1, h2, _ => by
    rw [List.filter_nil, List.append_nil]
    exact ⟨h1, h2⟩
  | a :: as, cur, C, h1, h2, h3 => by
    obtain ⟨q1, q2⟩ := sdB_false (C := C) (z := a)
    rw [List.foldl_cons, List.filter_cons]
    by_cases hn : a ∈ new
    · have hm : a ∈ old0 ++ new := List.mem_append.mpr (.inr hn)
      rw [if_neg (by simp [hm])]
      refine fold_as old0 new as cur _ ?_ (by rw [q1]; exact h2) h3
      rw [q2, h2, if_pos hn]
      exact h1
    · rw [h2, if_neg hn, h1] at q2
      by_cases ho : a ∈ old0
      · have hm : a ∈ old0 ++ new := List.mem_append.mpr (.inl ho)
        rw [if_neg (by simp [hm])]
        refine fold_as old0 new as cur _ ?_ (by rw [q1]; exact h2) h3
        rw [q2, hasS_mem (mem_dedS.mpr (h3 a ho))]
      · have hm : a ∉ old0 ++ new := fun z => (List.mem_append.mp z).elim ho hn
        rw [if_pos (by simp [hm])]
        have e : cur ++ a :: as.filter (fun z => !decide (z ∈ old0 ++ new)) = (cur ++ [a]) ++ as.filter fun z => !decide (z ∈ old0 ++ new) := by simp
        rw [e]
        refine fold_as old0 new as (cur ++ [a]) _ ?_ (by rw [q1]; exact h2) fun z hz => List.mem_append.mpr (.inl (h3 z hz))
        rw [q2, dedS_app]
/-- one deed in the law's way: the name that comes, if any, and those that stand -/
def stepL (s : List Str × List Str) (n : Option Str) (as : List Str) : List Str × List Str :=
  let new := match n with
    | some z => if z ∈ s.1 ++ s.2 then s.2 else s.2 ++ [z]
    | none => s.2
  (s.1 ++ as.filter fun z => !decide (z ∈ s.1 ++ new), new)
def stepP (C : List (Str × Bool)) (n : Option Str) (as : List Str) : List (Str × Bool) :=
  as.foldl (fun C z => sdB C false z) (match n with
    | some z => sdB C true z
    | none => C)
theorem step_same {C : List (Str × Bool)} {s : List Str × List Str} (h1 : fls C = dedS s.1) (h2 : trs C = s.2) (n : Option Str) (as : List Str) :
    fls (stepP C n as) = dedS (stepL s n as).1 ∧ trs (stepP C n as) = (stepL s n as).2 := by
  unfold stepP stepL
  cases n with
  | none => exact fold_as s.1 s.2 as s.1 C h1 h2 fun z hz => hz
  | some z =>
    obtain ⟨q1, q2⟩ := sdB_true (C := C) (z := z)
    have e : (z ∈ fls C ++ trs C) ↔ z ∈ s.1 ++ s.2 := by
      rw [List.mem_append, List.mem_append, h1, h2, mem_dedS]
    have e2 : trs (sdB C true z) = if z ∈ s.1 ++ s.2 then s.2 else s.2 ++ [z] := by
      rw [q2, h2]
      by_cases hz : z ∈ s.1 ++ s.2
      · rw [if_pos hz, if_pos (by rw [h2] at e; exact e.mpr hz)]
      · rw [if_neg hz, if_neg (fun q => hz (by rw [h2] at e; exact e.mp q))]
    exact fold_as s.1 _ as s.1 _ (by rw [q1]; exact h1) e2 fun z hz => hz
/-- all deeds -/
theorem fold_same : ∀ (xs : List (Option Str × List Str)) (C : List (Str × Bool)) (s : List Str × List Str), fls C = dedS s.1 → trs C = s.2 →
    fls (xs.foldl (fun C x => stepP C x.1 x.2) C) = dedS (xs.foldl (fun s x => stepL s x.1 x.2) s).1 ∧ trs (xs.foldl (fun C x => stepP C x.1 x.2) C) = (xs.foldl (fun s x => stepL s x.1 x.2) s).2
  | [], _, _, h1, h2 => ⟨h1, h2⟩
  | x :: xs, C, s, h1, h2 => by
    obtain ⟨q1, q2⟩ := step_same h1 h2 x.1 x.2
    exact fold_same xs _ _ q1 q2
end PD
end

section
set_option Elab.async false
set_option linter.all false
set_option maxRecDepth 100000
set_option maxHeartbeats 1000000
namespace PD
open PySem PySem.Spec PyProof.Rows L2
local macro_rules | `(tactic| walk_at "ev") => `(tactic| simp only [↓wE_lockd, ↓wE_sdf, ↓wE_var, ↓wE_bor, ↓wE_non, ↓wE_nop, ↓wE_bl, ↓wE_int, ↓wE_str, ↓wE_glo, ↓wE_tup, ↓wE_lst, ↓wE_dct, ↓wE_bin, ↓wE_neg, ↓wE_cmp, ↓wE_chn, ↓wE_nt, ↓wE_an, ↓wE_orr, ↓wE_ite, ↓wE_ix, ↓wE_sl, ↓wE_rev, ↓wE_cal, ↓wE_b1, ↓wE_b2, ↓wE_isi, ↓wE_m0, ↓wE_m1, ↓wE_mm0, ↓wE_mm1, ↓wE_cmpr, ↓wE_gin, ↓wE_gget, ↓wEs_nil, ↓wEs_cons, ↓wI_ex, ↓wI_rng1, ↓wI_rng2, ↓wI_zip, ↓wI_enum, ↓wS_asg, ↓wS_own, ↓wS_par, ↓wS_setix, ↓wS_expr, ↓wS_ite, ↓wS_whl, ↓wS_fr, ↓wS_ret, ↓wS_retN, ↓wS_retO, ↓wS_pass, ↓wS_brk, ↓wS_cnt, ↓wSs_nil, ↓wSs_cons, ↓q_fx_lockd, ↓q_fx_sdf, ↓q_fx_var, ↓q_fx_non, ↓q_fx_bl, ↓q_fx_int, ↓q_fx_str, ↓q_fx_nop, ↓q_fx_glo, ↓q_fx_tup, ↓q_fx_lst, ↓q_fx_dct, ↓q_fx_bin, ↓q_fx_neg, ↓q_fx_cmp, ↓q_fx_chn, ↓q_fx_nt, ↓q_fx_an, ↓q_fx_orr, ↓q_fx_ite, ↓q_fx_ix, ↓q_fx_sl, ↓q_fx_rev, ↓q_fx_cal, ↓q_fx_b1, ↓q_fx_b2, ↓q_fx_isi, ↓q_fx_m0, ↓q_fx_m1, ↓q_fx_m2, ↓q_fx_mm0, ↓q_fx_mm1, ↓q_fx_cmpr, ↓q_fx_gin, ↓q_fx_gget, ↓q_fx_bor, ↓q_fxs_nil, ↓q_fxs_cons, ↓q_lk_z, ↓q_lk_s, ↓q_wO_s, ↓q_ixO_nop, ↓q_ixO_lockd, ↓q_ixO_sdf, ↓q_ixO_var, ↓q_ixO_non, ↓q_ixO_bl, ↓q_ixO_int, ↓q_ixO_str, ↓q_ixO_glo, ↓q_ixO_tup, ↓q_ixO_lst, ↓q_ixO_dct, ↓q_ixO_bin, ↓q_ixO_neg, ↓q_ixO_cmp, ↓q_ixO_chn, ↓q_ixO_nt, ↓q_ixO_an, ↓q_ixO_orr, ↓q_ixO_ite, ↓q_ixO_ix, ↓q_ixO_sl, ↓q_ixO_rev, ↓q_ixO_cal, ↓q_ixO_b1, ↓q_ixO_b2, ↓q_ixO_isi, ↓q_ixO_m0, ↓q_ixO_m1, ↓q_ixO_m2, ↓q_ixO_mm0, ↓q_ixO_mm1, ↓q_ixO_cmpr, ↓q_ixO_gin, ↓q_ixO_gget, ↓q_asgT_nm, ↓q_asgT_tp, ↓q_asgT_tl, ↓q_it_fz, ↓q_ix_fz, ↓q_ix_dct, ↓q_srt, ↓q_sst, ↓q_sdf, ↓q_dctO, ↓q_setAll_nil, ↓q_setAll_cons, ↓q_wT_non, ↓q_wT_bl, ↓q_wT_int, ↓q_wT_tup, ↓q_wT_lst, ↓q_wT_str, ↓q_wB_bl, ↓q_wInt_int, ↓q_bin_add, ↓q_bin_sub, ↓q_bin_mul, ↓q_bin_mod, ↓q_bin_fdiv, ↓q_bin_pow, ↓q_bin_adds, ↓q_bin_addt, ↓q_bin_addl, ↓q_neg_int, ↓q_cmp_lt, ↓q_cmp_le, ↓q_cmp_gt, ↓q_cmp_ge, ↓q_cmp_eq, ↓q_cmp_ne, ↓q_cmp_in, ↓q_cmp_nin, ↓q_cmp_is, ↓q_cmp_isn, ↓q_eq_int, ↓q_eq_str, ↓q_eq_tupn, ↓q_eq_ntup, ↓q_eq_lstn, ↓q_in_str, ↓q_ix_lst, ↓q_ix_tup, ↓q_ix_scr, ↓q_ix_str, ↓q_sl_tup, ↓q_sl_lst, ↓q_sl_scr, ↓q_sl_str, ↓q_rev_tup, ↓q_rev_lst, ↓q_rev_str, ↓q_len_lst, ↓q_len_tup, ↓q_len_scr, ↓q_len_str, ↓q_abs_int, ↓q_int_int, ↓q_int_bl, ↓q_str_int, ↓q_all_lst, ↓q_any_lst, ↓q_tup_lst, ↓q_tup_tup, ↓q_lst_tup, ↓q_lst_lst, ↓q_rep_any, ↓q_max_two, ↓q_min_two, ↓q_up_str, ↓q_split_str, ↓q_join_str, ↓q_strip_str, ↓q_index_lst, ↓q_app_lst, ↓q_ext_lst, ↓q_pop_lst, ↓q_ty_list, ↓q_ty_str, ↓q_ty_str2, ↓q_ty_str3, ↓q_ty_idx, ↓q_set_lst, ↓q_strO_str, ↓q_it_tup, ↓q_it_lst, ↓q_it_scr, ↓q_it_str, ↓q_zip_st, ↓q_zip_ll, ↓q_zip_tt, ↓q_enum_l, ↓q_enum_t, ↓q_isi_non, ↓q_isi_bl, ↓q_isi_int, ↓q_isi_str, ↓q_isi_tup, ↓q_isi_lst, ↓q_isi_dct, ↓q_at0, ↓q_at1, ↓q_at2, ↓q_at3, ↓q_ixn0, ↓q_ixn1, ↓q_ixn2, ↓q_ixn3, ↓q_ixn4, ↓q_ixn5, ↓q_ixn6, ↓q_ixn7, ↓q_lkn, ↓q_lkn0, ↓q_lk0, ↓q_lkS, ↓q_wipe_nil, ↓q_wipe_cons, ↓q_back_nil, ↓q_back_cons, ↓q_ty_int_int, ↓q_ty_int_str, ↓q_ty_int_bool, ↓q_ty_int_tuple, ↓q_ty_int_list, ↓q_ty_int_dict, ↓q_ty_str_int, ↓q_ty_str_str, ↓q_ty_str_bool, ↓q_ty_str_tuple, ↓q_ty_str_list, ↓q_ty_str_dict, ↓q_ty_bool_int, ↓q_ty_bool_str, ↓q_ty_bool_bool, ↓q_ty_bool_tuple, ↓q_ty_bool_list, ↓q_ty_bool_dict, ↓q_ty_tuple_int, ↓q_ty_tuple_str, ↓q_ty_tuple_bool, ↓q_ty_tuple_tuple, ↓q_ty_tuple_list, ↓q_ty_tuple_dict, ↓q_ty_list_int, ↓q_ty_list_str, ↓q_ty_list_bool, ↓q_ty_list_tuple, ↓q_ty_list_list, ↓q_ty_list_dict, ↓q_ty_dict_int, ↓q_ty_dict_str, ↓q_ty_dict_bool, ↓q_ty_dict_tuple, ↓q_ty_dict_list, ↓q_ty_dict_dict, ↓q_kvs, ↓q_fit0, ↓q_fit1, ↓q_fit2, ↓q_fit3, ↓q_fit4, ↓q_fit5, ↓q_fit6, ↓q_fit7, ↓q_fit8, ↓q_fit9, ↓q_fit10, ↓q_fit11, ↓q_fit12, ↓q_fit13, ↓q_fit14, ↓q_fit15, ↓q_fit16, ↓q_fit17, ↓q_fit18, ↓q_fit19, ↓q_fit20, ↓q_fit21, ↓q_fit22, ↓q_fit23, ↓q_fit24, ↓q_fit25, ↓q_fit26, ↓q_fit27, ↓q_fit28, ↓q_fit29, ↓q_fit30, ↓q_fit31, ↓q_fit32, ↓q_fit33, ↓q_fit34, ↓q_fit35, ↓q_fit36, ↓q_fit37, ↓q_fit38, ↓q_fit39, ↓q_fit40, ↓q_putIo, ↓q_cl_nil, ↓q_cl_bor, ↓q_pio_nil, ↓q_pio_bor, ↓q_cl_lockd, ↓q_pio_lockd, ↓q_cl_sdf, ↓q_pio_sdf, ↓q_cl_var, ↓q_pio_var, ↓q_cl_non, ↓q_pio_non, ↓q_cl_bl, ↓q_pio_bl, ↓q_cl_int, ↓q_pio_int, ↓q_cl_str, ↓q_pio_str, ↓q_cl_nop, ↓q_pio_nop, ↓q_cl_glo, ↓q_pio_glo, ↓q_cl_tup, ↓q_pio_tup, ↓q_cl_lst, ↓q_pio_lst, ↓q_cl_dct, ↓q_pio_dct, ↓q_cl_bin, ↓q_pio_bin, ↓q_cl_neg, ↓q_pio_neg, ↓q_cl_cmp, ↓q_pio_cmp, ↓q_cl_chn, ↓q_pio_chn, ↓q_cl_nt, ↓q_pio_nt, ↓q_cl_an, ↓q_pio_an, ↓q_cl_orr, ↓q_pio_orr, ↓q_cl_ite, ↓q_pio_ite, ↓q_cl_ix, ↓q_pio_ix, ↓q_cl_sl, ↓q_pio_sl, ↓q_cl_rev, ↓q_pio_rev, ↓q_cl_cal, ↓q_pio_cal, ↓q_cl_b1, ↓q_pio_b1, ↓q_cl_b2, ↓q_pio_b2, ↓q_cl_isi, ↓q_pio_isi, ↓q_cl_m0, ↓q_pio_m0, ↓q_cl_m1, ↓q_pio_m1, ↓q_cl_m2, ↓q_pio_m2, ↓q_cl_mm0, ↓q_pio_mm0, ↓q_cl_mm1, ↓q_pio_mm1, ↓q_cl_cmpr, ↓q_pio_cmpr, ↓q_cl_gin, ↓q_pio_gin, ↓q_cl_gget, ↓q_pio_gget, q_fx_lockd, q_fx_sdf, q_fx_var, q_fx_non, q_fx_bl, q_fx_int, q_fx_str, q_fx_nop, q_fx_glo, q_fx_tup, q_fx_lst, q_fx_dct, q_fx_bin, q_fx_neg, q_fx_cmp, q_fx_chn, q_fx_nt, q_fx_an, q_fx_orr, q_fx_ite, q_fx_ix, q_fx_sl, q_fx_rev, q_fx_cal, q_fx_b1, q_fx_b2, q_fx_isi, q_fx_m0, q_fx_m1, q_fx_m2, q_fx_mm0, q_fx_mm1, q_fx_cmpr, q_fx_gin, q_fx_gget, q_fx_bor, q_fxs_nil, q_fxs_cons, q_lk_z, q_lk_s, q_wO_s, q_ixO_nop, q_ixO_lockd, q_ixO_sdf, q_ixO_var, q_ixO_non, q_ixO_bl, q_ixO_int, q_ixO_str, q_ixO_glo, q_ixO_tup, q_ixO_lst, q_ixO_dct, q_ixO_bin, q_ixO_neg, q_ixO_cmp, q_ixO_chn, q_ixO_nt, q_ixO_an, q_ixO_orr, q_ixO_ite, q_ixO_ix, q_ixO_sl, q_ixO_rev, q_ixO_cal, q_ixO_b1, q_ixO_b2, q_ixO_isi, q_ixO_m0, q_ixO_m1, q_ixO_m2, q_ixO_mm0, q_ixO_mm1, q_ixO_cmpr, q_ixO_gin, q_ixO_gget, q_asgT_nm, q_asgT_tp, q_asgT_tl, q_it_fz, q_ix_fz, q_ix_dct, q_srt, q_sst, q_sdf, q_dctO, q_setAll_nil, q_setAll_cons, q_wT_non, q_wT_bl, q_wT_int, q_wT_tup, q_wT_lst, q_wT_str, q_wB_bl, q_wInt_int, q_bin_add, q_bin_sub, q_bin_mul, q_bin_mod, q_bin_fdiv, q_bin_pow, q_bin_adds, q_bin_addt, q_bin_addl, q_neg_int, q_cmp_lt, q_cmp_le, q_cmp_gt, q_cmp_ge, q_cmp_eq, q_cmp_ne, q_cmp_in, q_cmp_nin, q_cmp_is, q_cmp_isn, q_eq_int, q_eq_str, q_eq_tupn, q_eq_ntup, q_eq_lstn, q_in_str, q_ix_lst, q_ix_tup, q_ix_scr, q_ix_str, q_sl_tup, q_sl_lst, q_sl_scr, q_sl_str, q_rev_tup, q_rev_lst, q_rev_str, q_len_lst, q_len_tup, q_len_scr, q_len_str, q_abs_int, q_int_int, q_int_bl, q_str_int, q_all_lst, q_any_lst, q_tup_lst, q_tup_tup, q_lst_tup, q_lst_lst, q_rep_any, q_max_two, q_min_two, q_up_str, q_split_str, q_join_str, q_strip_str, q_index_lst, q_app_lst, q_ext_lst, q_pop_lst, q_ty_list, q_ty_str, q_ty_str2, q_ty_str3, q_ty_idx, q_set_lst, q_strO_str, q_it_tup, q_it_lst, q_it_scr, q_it_str, q_zip_st, q_zip_ll, q_zip_tt, q_enum_l, q_enum_t, q_isi_non, q_isi_bl, q_isi_int, q_isi_str, q_isi_tup, q_isi_lst, q_isi_dct, q_at0, q_at1, q_at2, q_at3, q_ixn0, q_ixn1, q_ixn2, q_ixn3, q_ixn4, q_ixn5, q_ixn6, q_ixn7, q_lkn, q_lkn0, q_lk0, q_lkS, q_wipe_nil, q_wipe_cons, q_back_nil, q_back_cons, q_ty_int_int, q_ty_int_str, q_ty_int_bool, q_ty_int_tuple, q_ty_int_list, q_ty_int_dict, q_ty_str_int, q_ty_str_str, q_ty_str_bool, q_ty_str_tuple, q_ty_str_list, q_ty_str_dict, q_ty_bool_int, q_ty_bool_str, q_ty_bool_bool, q_ty_bool_tuple, q_ty_bool_list, q_ty_bool_dict, q_ty_tuple_int, q_ty_tuple_str, q_ty_tuple_bool, q_ty_tuple_tuple, q_ty_tuple_list, q_ty_tuple_dict, q_ty_list_int, q_ty_list_str, q_ty_list_bool, q_ty_list_tuple, q_ty_list_list, q_ty_list_dict, q_ty_dict_int, q_ty_dict_str, q_ty_dict_bool, q_ty_dict_tuple, q_ty_dict_list, q_ty_dict_dict, q_kvs, q_fit0, q_fit1, q_fit2, q_fit3, q_fit4, q_fit5, q_fit6, q_fit7, q_fit8, q_fit9, q_fit10, q_fit11, q_fit12, q_fit13, q_fit14, q_fit15, q_fit16, q_fit17, q_fit18, q_fit19, q_fit20, q_fit21, q_fit22, q_fit23, q_fit24, q_fit25, q_fit26, q_fit27, q_fit28, q_fit29, q_fit30, q_fit31, q_fit32, q_fit33, q_fit34, q_fit35, q_fit36, q_fit37, q_fit38, q_fit39, q_fit40, q_putIo, q_cl_nil, q_cl_bor, q_pio_nil, q_pio_bor, q_cl_lockd, q_pio_lockd, q_cl_sdf, q_pio_sdf, q_cl_var, q_pio_var, q_cl_non, q_pio_non, q_cl_bl, q_pio_bl, q_cl_int, q_pio_int, q_cl_str, q_pio_str, q_cl_nop, q_pio_nop, q_cl_glo, q_pio_glo, q_cl_tup, q_pio_tup, q_cl_lst, q_pio_lst, q_cl_dct, q_pio_dct, q_cl_bin, q_pio_bin, q_cl_neg, q_pio_neg, q_cl_cmp, q_pio_cmp, q_cl_chn, q_pio_chn, q_cl_nt, q_pio_nt, q_cl_an, q_pio_an, q_cl_orr, q_pio_orr, q_cl_ite, q_pio_ite, q_cl_ix, q_pio_ix, q_cl_sl, q_pio_sl, q_cl_rev, q_pio_rev, q_cl_cal, q_pio_cal, q_cl_b1, q_pio_b1, q_cl_b2, q_pio_b2, q_cl_isi, q_pio_isi, q_cl_m0, q_pio_m0, q_cl_m1, q_pio_m1, q_cl_m2, q_pio_m2, q_cl_mm0, q_pio_mm0, q_cl_mm1, q_pio_mm1, q_cl_cmpr, q_pio_cmpr, q_cl_gin, q_pio_gin, q_cl_gget, q_pio_gget, List.set_cons_zero, List.set_cons_succ, List.length_cons, List.length_nil, List.map_cons, List.map_nil, List.replicate_succ, List.replicate_zero, List.cons_append, List.nil_append, List.take_succ_cons, List.take_zero, true_and, and_true, Bool.not_true, Bool.not_false, if_true, Bool.false_eq_true, if_false, cond_true, cond_false, List.isEmpty_cons, List.isEmpty_nil, Option.isNone_some, Bool.or_true, Bool.true_or, Bool.or_false, Bool.false_or, Bool.and_true, Bool.true_and, Bool.and_false, Bool.false_and, Nat.reduceAdd, Nat.reduceSub, Nat.reduceLT, Nat.reduceLeDiff, Nat.zero_add, Int.reduceLT, Int.reduceLE, reduceCtorEq, decide_eq_true_eq, Nat.lt_add_one, Nat.zero_lt_succ, *])
/-! QNW: the names of a deed, walked -/
section
variable {G : List D} {fns : List Fn} {wf n f : Nat} {Q : D → PD.Env → Prop} {X : XQ} {w ks : Str} {items : List D}
/-- the items of one kind -/
def selD (ks : Str) (items : List D) (c : Nat) : List D := ((ks.cps.toList.zip items).filter fun p => decide (p.1 = c)).map (·.2)
def namedFn (g : Nat) : Fn := ⟨2, 4, [false, false, false, false], true,
      (.cons (.ret (.cmpr (.var 3) (.tp [2, 3]) [2, 3] (.zip (.gget g (.ix (.var 0) (.int 0))) (.sl (.var 0) (.int 1) .nop)) (.cmp .eq (.var 2) (.var 1))))
      .nil)⟩
theorem chr_eq {a b : Nat} : ((⟨#[a]⟩ : Str) = ⟨#[b]⟩) ↔ a = b := by
  constructor
  · intro h
    have := congrArg (fun s : Str => s.cps.toList) h
    simpa using this
  · rintro rfl; rfl
theorem sel_eq (ks : Str) (items : List D) (c : Nat) : (((charsD ks).zip items).filter fun p => decide (chr0 p.1 = c)).map (fun p => p.2) = selD ks items c := by
  unfold selD charsD
  rw [List.zip_map_left, List.filter_map, List.map_map]
  rfl
theorem named_w {g c : Nat} (hF : fns[f]? = some (namedFn g)) (hg : G[g]? = some (.dct false tabD)) (hn : 1 ≤ n) (el : look w = some ks) (hl : items.length = ks.cps.toList.length) (k : ∀ io, Q (.lst (selD ks items c)) io) :
    wC (callF G fns wf n f [.tup (.str w :: items), .str ⟨#[c]⟩]) Q X := by
  refine wC_callF hF hn rfl ?_
  unfold namedFn
  have dt := dget_tab w
  rw [el] at dt
  have hc1 := cutD_1 (.str w) items
  have hf : fits ks = true := look_fits el
  walk_at "ev"
  refine ⟨fitn_of ?_, ?_⟩
  · rw [pairD_len]
    have := look_short el
    have : (charsD ks).length = ks.cps.toList.length := by simp [charsD]
    omega
  refine wL_filT (by decide) (fun x y => decide (chr0 x = c)) (fun x y => y) (fun x y hxy => ?_) (fun u v => ?_) ⟨none, none, rfl⟩
  · obtain ⟨a, ham, rfl⟩ := List.mem_map.mp (List.of_mem_zip hxy).1
    have hch : chr0 (.str ⟨#[a]⟩) = a := rfl
    walk_at "ev"
    by_cases ha : a = c
    · subst ha
      simp
    · have : ¬ (⟨#[a]⟩ : Str) = ⟨#[c]⟩ := fun h => ha (chr_eq.mp h)
      simp [ha, this]
  · rw [sel_eq]
    walk_at "ev"
    all_goals exact k _
/-! ### the dict of names -/
def kvC (C : List (Str × Bool)) : List (D × D) := C.map fun p => (.str p.1, .bl p.2)
theorem kvC_len (C : List (Str × Bool)) : (kvC C).length = C.length := List.length_map ..
theorem dget_kvC (C : List (Str × Bool)) (z : Str) : dget (kvC C) (.str z) = (C.find? fun p => decide (p.1 = z)).map fun p => .bl p.2 := by
  unfold dget kvC
  rw [List.find?_map, Option.map_map]
  rfl
theorem sdfK_eq (C : List (Str × Bool)) (z : Str) (b : Bool) : (sdfK (kvC C) z (.bl b)).2 = .dct false (kvC (sdB C b z)) := by
  unfold sdfK sdB
  rw [dget_kvC]
  cases e : C.find? fun p => decide (p.1 = z) with
  | none =>
    have : z ∉ C.map (·.1) := fun h => by
      obtain ⟨p, hp, q⟩ := List.mem_map.mp h
      have := List.find?_eq_none.mp e p hp
      simp [q] at this
    rw [if_neg this]
    unfold kvC
    simp
  | some p =>
    have h1 := List.find?_some e
    have : z ∈ C.map (·.1) := List.mem_map.mpr ⟨p, List.mem_of_find?_eq_some e, by simpa using h1⟩
    rw [if_pos this]
    rfl
theorem sdB_nodup {C : List (Str × Bool)} {b : Bool} {z : Str} (h : (C.map (·.1)).Nodup) : ((sdB C b z).map (·.1)).Nodup := by
  unfold sdB
  by_cases hz : z ∈ C.map (·.1)
  · rw [if_pos hz]; exact h
  · rw [if_neg hz, List.map_append]
    refine List.nodup_append.mpr ⟨h, by simp, fun a ha c hc => ?_⟩
    simp at hc
    subst hc
    exact fun e => hz (e ▸ ha)
theorem sdB_len {C : List (Str × Bool)} {b : Bool} {z : Str} : (sdB C b z).length ≤ C.length + 1 := by
  unfold sdB
  by_cases hz : z ∈ C.map (·.1)
  · rw [if_pos hz]; omega
  · rw [if_neg hz]; simp
theorem get_kvC {C : List (Str × Bool)} (h : (C.map (·.1)).Nodup) {p : Str × Bool} (hp : p ∈ C) : dget (kvC C) (.str p.1) = some (.bl p.2) := by
  rw [dget_kvC]
  induction C with
  | nil => cases hp
  | cons q C ih =>
    rw [List.map_cons, List.nodup_cons] at h
    rw [List.find?_cons]
    by_cases e : q.1 = p.1
    · rw [decide_eq_true e]
      rcases List.mem_cons.mp hp with r | r
      · rw [r]; rfl
      · exact (h.1 (List.mem_map.mpr ⟨p, r, e.symm⟩)).elim
    · rw [decide_eq_false e]
      rcases List.mem_cons.mp hp with r | r
      · exact (e (by rw [r])).elim
      · exact ih h.2 r
/-- a comprehension that keeps some items -/
theorem wL_fil {G : List D} {cf : Nat → List D → C} {ds : List D} {j : Nat} {ρ0 : PD.Env} {cd : Ex} {Q : List D → PD.Env → Prop} (c : D → Bool)
    (hs : ∀ d ∈ ds, wE G cf cd (ρ0.set j (some d)) (fun k ρ => wT k fun t => t = c d ∧ ρ = ρ0.set j (some d)) (fun _ _ _ => False))
    (hl : j < ρ0.length) (fin : ∀ u, Q (ds.filter c) (ρ0.set j u)) (hj : ∃ u, ρ0 = ρ0.set j u) : wL G cf cd (.var j) (.nm j) [j] ds ρ0 Q ⟨⟩ := by
  refine wL_inv (fun i ys ρ => ys = (ds.take i).filter c ∧ ∃ u, ρ = ρ0.set j u) ⟨by simp, hj⟩ ?_ ?_
  · rintro i d ys ρ hd ⟨rfl, u, rfl⟩
    have hm := List.mem_of_getElem? hd
    have tk : ds.take (i + 1) = ds.take i ++ [d] := by rw [List.take_succ, hd]; rfl
    simp only [q_wipe_cons, q_wipe_nil, List.set_set, q_asgT_nm]
    refine wR_imp (hs d hm) (fun k ρ h => ?_) fun _ _ _ z => z
    unfold wT at h ⊢
    cases e : truD k with
    | none => rw [e] at h; exact h.elim
    | some t =>
      rw [e] at h
      obtain ⟨h1, rfl⟩ := h
      have h1 : t = c d := h1
      subst h1
      show (if c d = true then _ else _)
      by_cases hc : c d = true
      · rw [if_pos hc]
        simp only [wE_var]
        have : lk (ρ0.set j (some d)) j = some d := by
          unfold lk
          rw [List.getElem?_set_self hl]; rfl
        rw [this]
        exact ⟨by rw [tk, List.filter_append]; simp [hc], _, rfl⟩
      · rw [if_neg hc]
        exact ⟨by rw [tk, List.filter_append]; simp [hc], _, rfl⟩
  · rintro ys ρ ⟨rfl, u, rfl⟩
    rw [List.take_length]
    exact fin u
end
end PD
end

section
set_option Elab.async false
set_option linter.all false
set_option maxRecDepth 100000
set_option maxHeartbeats 1000000
namespace PD
open PySem PySem.Spec PyProof.Rows L2
local macro_rules | `(tactic| walk_at "ev") => `(tactic| simp only [↓wE_lockd, ↓wE_sdf, ↓wE_var, ↓wE_bor, ↓wE_non, ↓wE_nop, ↓wE_bl, ↓wE_int, ↓wE_str, ↓wE_glo, ↓wE_tup, ↓wE_lst, ↓wE_dct, ↓wE_bin, ↓wE_neg, ↓wE_cmp, ↓wE_chn, ↓wE_nt, ↓wE_an, ↓wE_orr, ↓wE_ite, ↓wE_ix, ↓wE_sl, ↓wE_rev, ↓wE_cal, ↓wE_b1, ↓wE_b2, ↓wE_isi, ↓wE_m0, ↓wE_m1, ↓wE_mm0, ↓wE_mm1, ↓wE_cmpr, ↓wE_gin, ↓wE_gget, ↓wEs_nil, ↓wEs_cons, ↓wI_ex, ↓wI_rng1, ↓wI_rng2, ↓wI_zip, ↓wI_enum, ↓wS_asg, ↓wS_own, ↓wS_par, ↓wS_setix, ↓wS_expr, ↓wS_ite, ↓wS_whl, ↓wS_fr, ↓wS_ret, ↓wS_retN, ↓wS_retO, ↓wS_pass, ↓wS_brk, ↓wS_cnt, ↓wSs_nil, ↓wSs_cons, ↓q_fx_lockd, ↓q_fx_sdf, ↓q_fx_var, ↓q_fx_non, ↓q_fx_bl, ↓q_fx_int, ↓q_fx_str, ↓q_fx_nop, ↓q_fx_glo, ↓q_fx_tup, ↓q_fx_lst, ↓q_fx_dct, ↓q_fx_bin, ↓q_fx_neg, ↓q_fx_cmp, ↓q_fx_chn, ↓q_fx_nt, ↓q_fx_an, ↓q_fx_orr, ↓q_fx_ite, ↓q_fx_ix, ↓q_fx_sl, ↓q_fx_rev, ↓q_fx_cal, ↓q_fx_b1, ↓q_fx_b2, ↓q_fx_isi, ↓q_fx_m0, ↓q_fx_m1, ↓q_fx_m2, ↓q_fx_mm0, ↓q_fx_mm1, ↓q_fx_cmpr, ↓q_fx_gin, ↓q_fx_gget, ↓q_fx_bor, ↓q_fxs_nil, ↓q_fxs_cons, ↓q_lk_z, ↓q_lk_s, ↓q_wO_s, ↓q_ixO_nop, ↓q_ixO_lockd, ↓q_ixO_sdf, ↓q_ixO_var, ↓q_ixO_non, ↓q_ixO_bl, ↓q_ixO_int, ↓q_ixO_str, ↓q_ixO_glo, ↓q_ixO_tup, ↓q_ixO_lst, ↓q_ixO_dct, ↓q_ixO_bin, ↓q_ixO_neg, ↓q_ixO_cmp, ↓q_ixO_chn, ↓q_ixO_nt, ↓q_ixO_an, ↓q_ixO_orr, ↓q_ixO_ite, ↓q_ixO_ix, ↓q_ixO_sl, ↓q_ixO_rev, ↓q_ixO_cal, ↓q_ixO_b1, ↓q_ixO_b2, ↓q_ixO_isi, ↓q_ixO_m0, ↓q_ixO_m1, ↓q_ixO_m2, ↓q_ixO_mm0, ↓q_ixO_mm1, ↓q_ixO_cmpr, ↓q_ixO_gin, ↓q_ixO_gget, ↓q_asgT_nm, ↓q_asgT_tp, ↓q_asgT_tl, ↓q_it_fz, ↓q_ix_fz, ↓q_ix_dct, ↓q_srt, ↓q_sst, ↓q_sdf, ↓q_dctO, ↓q_setAll_nil, ↓q_setAll_cons, ↓q_wT_non, ↓q_wT_bl, ↓q_wT_int, ↓q_wT_tup, ↓q_wT_lst, ↓q_wT_str, ↓q_wB_bl, ↓q_wInt_int, ↓q_bin_add, ↓q_bin_sub, ↓q_bin_mul, ↓q_bin_mod, ↓q_bin_fdiv, ↓q_bin_pow, ↓q_bin_adds, ↓q_bin_addt, ↓q_bin_addl, ↓q_neg_int, ↓q_cmp_lt, ↓q_cmp_le, ↓q_cmp_gt, ↓q_cmp_ge, ↓q_cmp_eq, ↓q_cmp_ne, ↓q_cmp_in, ↓q_cmp_nin, ↓q_cmp_is, ↓q_cmp_isn, ↓q_eq_int, ↓q_eq_str, ↓q_eq_tupn, ↓q_eq_ntup, ↓q_eq_lstn, ↓q_in_str, ↓q_ix_lst, ↓q_ix_tup, ↓q_ix_scr, ↓q_ix_str, ↓q_sl_tup, ↓q_sl_lst, ↓q_sl_scr, ↓q_sl_str, ↓q_rev_tup, ↓q_rev_lst, ↓q_rev_str, ↓q_len_lst, ↓q_len_tup, ↓q_len_scr, ↓q_len_str, ↓q_abs_int, ↓q_int_int, ↓q_int_bl, ↓q_str_int, ↓q_all_lst, ↓q_any_lst, ↓q_tup_lst, ↓q_tup_tup, ↓q_lst_tup, ↓q_lst_lst, ↓q_rep_any, ↓q_max_two, ↓q_min_two, ↓q_up_str, ↓q_split_str, ↓q_join_str, ↓q_strip_str, ↓q_index_lst, ↓q_app_lst, ↓q_ext_lst, ↓q_pop_lst, ↓q_ty_list, ↓q_ty_str, ↓q_ty_str2, ↓q_ty_str3, ↓q_ty_idx, ↓q_set_lst, ↓q_strO_str, ↓q_it_tup, ↓q_it_lst, ↓q_it_scr, ↓q_it_str, ↓q_zip_st, ↓q_zip_ll, ↓q_zip_tt, ↓q_enum_l, ↓q_enum_t, ↓q_isi_non, ↓q_isi_bl, ↓q_isi_int, ↓q_isi_str, ↓q_isi_tup, ↓q_isi_lst, ↓q_isi_dct, ↓q_at0, ↓q_at1, ↓q_at2, ↓q_at3, ↓q_ixn0, ↓q_ixn1, ↓q_ixn2, ↓q_ixn3, ↓q_ixn4, ↓q_ixn5, ↓q_ixn6, ↓q_ixn7, ↓q_lkn, ↓q_lkn0, ↓q_lk0, ↓q_lkS, ↓q_wipe_nil, ↓q_wipe_cons, ↓q_back_nil, ↓q_back_cons, ↓q_ty_int_int, ↓q_ty_int_str, ↓q_ty_int_bool, ↓q_ty_int_tuple, ↓q_ty_int_list, ↓q_ty_int_dict, ↓q_ty_str_int, ↓q_ty_str_str, ↓q_ty_str_bool, ↓q_ty_str_tuple, ↓q_ty_str_list, ↓q_ty_str_dict, ↓q_ty_bool_int, ↓q_ty_bool_str, ↓q_ty_bool_bool, ↓q_ty_bool_tuple, ↓q_ty_bool_list, ↓q_ty_bool_dict, ↓q_ty_tuple_int, ↓q_ty_tuple_str, ↓q_ty_tuple_bool, ↓q_ty_tuple_tuple, ↓q_ty_tuple_list, ↓q_ty_tuple_dict, ↓q_ty_list_int, ↓q_ty_list_str, ↓q_ty_list_bool, ↓q_ty_list_tuple, ↓q_ty_list_list, ↓q_ty_list_dict, ↓q_ty_dict_int, ↓q_ty_dict_str, ↓q_ty_dict_bool, ↓q_ty_dict_tuple, ↓q_ty_dict_list, ↓q_ty_dict_dict, ↓q_kvs, ↓q_fit0, ↓q_fit1, ↓q_fit2, ↓q_fit3, ↓q_fit4, ↓q_fit5, ↓q_fit6, ↓q_fit7, ↓q_fit8, ↓q_fit9, ↓q_fit10, ↓q_fit11, ↓q_fit12, ↓q_fit13, ↓q_fit14, ↓q_fit15, ↓q_fit16, ↓q_fit17, ↓q_fit18, ↓q_fit19, ↓q_fit20, ↓q_fit21, ↓q_fit22, ↓q_fit23, ↓q_fit24, ↓q_fit25, ↓q_fit26, ↓q_fit27, ↓q_fit28, ↓q_fit29, ↓q_fit30, ↓q_fit31, ↓q_fit32, ↓q_fit33, ↓q_fit34, ↓q_fit35, ↓q_fit36, ↓q_fit37, ↓q_fit38, ↓q_fit39, ↓q_fit40, ↓q_putIo, ↓q_cl_nil, ↓q_cl_bor, ↓q_pio_nil, ↓q_pio_bor, ↓q_cl_lockd, ↓q_pio_lockd, ↓q_cl_sdf, ↓q_pio_sdf, ↓q_cl_var, ↓q_pio_var, ↓q_cl_non, ↓q_pio_non, ↓q_cl_bl, ↓q_pio_bl, ↓q_cl_int, ↓q_pio_int, ↓q_cl_str, ↓q_pio_str, ↓q_cl_nop, ↓q_pio_nop, ↓q_cl_glo, ↓q_pio_glo, ↓q_cl_tup, ↓q_pio_tup, ↓q_cl_lst, ↓q_pio_lst, ↓q_cl_dct, ↓q_pio_dct, ↓q_cl_bin, ↓q_pio_bin, ↓q_cl_neg, ↓q_pio_neg, ↓q_cl_cmp, ↓q_pio_cmp, ↓q_cl_chn, ↓q_pio_chn, ↓q_cl_nt, ↓q_pio_nt, ↓q_cl_an, ↓q_pio_an, ↓q_cl_orr, ↓q_pio_orr, ↓q_cl_ite, ↓q_pio_ite, ↓q_cl_ix, ↓q_pio_ix, ↓q_cl_sl, ↓q_pio_sl, ↓q_cl_rev, ↓q_pio_rev, ↓q_cl_cal, ↓q_pio_cal, ↓q_cl_b1, ↓q_pio_b1, ↓q_cl_b2, ↓q_pio_b2, ↓q_cl_isi, ↓q_pio_isi, ↓q_cl_m0, ↓q_pio_m0, ↓q_cl_m1, ↓q_pio_m1, ↓q_cl_m2, ↓q_pio_m2, ↓q_cl_mm0, ↓q_pio_mm0, ↓q_cl_mm1, ↓q_pio_mm1, ↓q_cl_cmpr, ↓q_pio_cmpr, ↓q_cl_gin, ↓q_pio_gin, ↓q_cl_gget, ↓q_pio_gget, q_fx_lockd, q_fx_sdf, q_fx_var, q_fx_non, q_fx_bl, q_fx_int, q_fx_str, q_fx_nop, q_fx_glo, q_fx_tup, q_fx_lst, q_fx_dct, q_fx_bin, q_fx_neg, q_fx_cmp, q_fx_chn, q_fx_nt, q_fx_an, q_fx_orr, q_fx_ite, q_fx_ix, q_fx_sl, q_fx_rev, q_fx_cal, q_fx_b1, q_fx_b2, q_fx_isi, q_fx_m0, q_fx_m1, q_fx_m2, q_fx_mm0, q_fx_mm1, q_fx_cmpr, q_fx_gin, q_fx_gget, q_fx_bor, q_fxs_nil, q_fxs_cons, q_lk_z, q_lk_s, q_wO_s, q_ixO_nop, q_ixO_lockd, q_ixO_sdf, q_ixO_var, q_ixO_non, q_ixO_bl, q_ixO_int, q_ixO_str, q_ixO_glo, q_ixO_tup, q_ixO_lst, q_ixO_dct, q_ixO_bin, q_ixO_neg, q_ixO_cmp, q_ixO_chn, q_ixO_nt, q_ixO_an, q_ixO_orr, q_ixO_ite, q_ixO_ix, q_ixO_sl, q_ixO_rev, q_ixO_cal, q_ixO_b1, q_ixO_b2, q_ixO_isi, q_ixO_m0, q_ixO_m1, q_ixO_m2, q_ixO_mm0, q_ixO_mm1, q_ixO_cmpr, q_ixO_gin, q_ixO_gget, q_asgT_nm, q_asgT_tp, q_asgT_tl, q_it_fz, q_ix_fz, q_ix_dct, q_srt, q_sst, q_sdf, q_dctO, q_setAll_nil, q_setAll_cons, q_wT_non, q_wT_bl, q_wT_int, q_wT_tup, q_wT_lst, q_wT_str, q_wB_bl, q_wInt_int, q_bin_add, q_bin_sub, q_bin_mul, q_bin_mod, q_bin_fdiv, q_bin_pow, q_bin_adds, q_bin_addt, q_bin_addl, q_neg_int, q_cmp_lt, q_cmp_le, q_cmp_gt, q_cmp_ge, q_cmp_eq, q_cmp_ne, q_cmp_in, q_cmp_nin, q_cmp_is, q_cmp_isn, q_eq_int, q_eq_str, q_eq_tupn, q_eq_ntup, q_eq_lstn, q_in_str, q_ix_lst, q_ix_tup, q_ix_scr, q_ix_str, q_sl_tup, q_sl_lst, q_sl_scr, q_sl_str, q_rev_tup, q_rev_lst, q_rev_str, q_len_lst, q_len_tup, q_len_scr, q_len_str, q_abs_int, q_int_int, q_int_bl, q_str_int, q_all_lst, q_any_lst, q_tup_lst, q_tup_tup, q_lst_tup, q_lst_lst, q_rep_any, q_max_two, q_min_two, q_up_str, q_split_str, q_join_str, q_strip_str, q_index_lst, q_app_lst, q_ext_lst, q_pop_lst, q_ty_list, q_ty_str, q_ty_str2, q_ty_str3, q_ty_idx, q_set_lst, q_strO_str, q_it_tup, q_it_lst, q_it_scr, q_it_str, q_zip_st, q_zip_ll, q_zip_tt, q_enum_l, q_enum_t, q_isi_non, q_isi_bl, q_isi_int, q_isi_str, q_isi_tup, q_isi_lst, q_isi_dct, q_at0, q_at1, q_at2, q_at3, q_ixn0, q_ixn1, q_ixn2, q_ixn3, q_ixn4, q_ixn5, q_ixn6, q_ixn7, q_lkn, q_lkn0, q_lk0, q_lkS, q_wipe_nil, q_wipe_cons, q_back_nil, q_back_cons, q_ty_int_int, q_ty_int_str, q_ty_int_bool, q_ty_int_tuple, q_ty_int_list, q_ty_int_dict, q_ty_str_int, q_ty_str_str, q_ty_str_bool, q_ty_str_tuple, q_ty_str_list, q_ty_str_dict, q_ty_bool_int, q_ty_bool_str, q_ty_bool_bool, q_ty_bool_tuple, q_ty_bool_list, q_ty_bool_dict, q_ty_tuple_int, q_ty_tuple_str, q_ty_tuple_bool, q_ty_tuple_tuple, q_ty_tuple_list, q_ty_tuple_dict, q_ty_list_int, q_ty_list_str, q_ty_list_bool, q_ty_list_tuple, q_ty_list_list, q_ty_list_dict, q_ty_dict_int, q_ty_dict_str, q_ty_dict_bool, q_ty_dict_tuple, q_ty_dict_list, q_ty_dict_dict, q_kvs, q_fit0, q_fit1, q_fit2, q_fit3, q_fit4, q_fit5, q_fit6, q_fit7, q_fit8, q_fit9, q_fit10, q_fit11, q_fit12, q_fit13, q_fit14, q_fit15, q_fit16, q_fit17, q_fit18, q_fit19, q_fit20, q_fit21, q_fit22, q_fit23, q_fit24, q_fit25, q_fit26, q_fit27, q_fit28, q_fit29, q_fit30, q_fit31, q_fit32, q_fit33, q_fit34, q_fit35, q_fit36, q_fit37, q_fit38, q_fit39, q_fit40, q_putIo, q_cl_nil, q_cl_bor, q_pio_nil, q_pio_bor, q_cl_lockd, q_pio_lockd, q_cl_sdf, q_pio_sdf, q_cl_var, q_pio_var, q_cl_non, q_pio_non, q_cl_bl, q_pio_bl, q_cl_int, q_pio_int, q_cl_str, q_pio_str, q_cl_nop, q_pio_nop, q_cl_glo, q_pio_glo, q_cl_tup, q_pio_tup, q_cl_lst, q_pio_lst, q_cl_dct, q_pio_dct, q_cl_bin, q_pio_bin, q_cl_neg, q_pio_neg, q_cl_cmp, q_pio_cmp, q_cl_chn, q_pio_chn, q_cl_nt, q_pio_nt, q_cl_an, q_pio_an, q_cl_orr, q_pio_orr, q_cl_ite, q_pio_ite, q_cl_ix, q_pio_ix, q_cl_sl, q_pio_sl, q_cl_rev, q_pio_rev, q_cl_cal, q_pio_cal, q_cl_b1, q_pio_b1, q_cl_b2, q_pio_b2, q_cl_isi, q_pio_isi, q_cl_m0, q_pio_m0, q_cl_m1, q_pio_m1, q_cl_m2, q_pio_m2, q_cl_mm0, q_pio_mm0, q_cl_mm1, q_pio_mm1, q_cl_cmpr, q_pio_cmpr, q_cl_gin, q_pio_gin, q_cl_gget, q_pio_gget, List.set_cons_zero, List.set_cons_succ, List.length_cons, List.length_nil, List.map_cons, List.map_nil, List.replicate_succ, List.replicate_zero, List.cons_append, List.nil_append, List.take_succ_cons, List.take_zero, true_and, and_true, Bool.not_true, Bool.not_false, if_true, Bool.false_eq_true, if_false, cond_true, cond_false, List.isEmpty_cons, List.isEmpty_nil, Option.isNone_some, Bool.or_true, Bool.true_or, Bool.or_false, Bool.false_or, Bool.and_true, Bool.true_and, Bool.and_false, Bool.false_and, Nat.reduceAdd, Nat.reduceSub, Nat.reduceLT, Nat.reduceLeDiff, Nat.zero_add, Int.reduceLT, Int.reduceLE, reduceCtorEq, decide_eq_true_eq, Nat.lt_add_one, Nat.zero_lt_succ, *])
/-! QNX: names_in, walked -/
section
variable {G : List D} {fns : List Fn} {wf n f : Nat} {Q : D → PD.Env → Prop} {X : XQ}
/-- a deed and its names: the one that comes, those that stand -/
structure DeedN (x : D) (y : Option Str × List Str) : Prop where
  ex : ∃ w ks items, x = .tup (.str w :: items) ∧ look w = some ks ∧ items.length = ks.cps.toList.length ∧ selD ks items 110 = y.1.toList.map .str ∧ selD ks items 97 = y.2.map .str ∧ (y.1.isSome = true ↔ w = "put") ∧ ∀ z, y.1 = some z → items.head? = some (.str z)
def namesFn (j : Nat) : Fn := ⟨1, 5, [false, true, false, false, false], false,
      (.cons (.own 1 (.dct false .nil .nil))
      (.cons (.fr (.nm 2) (.ex (.var 0))
      (.cons (.fr (.nm 4) (.ex (.cal j (.cons (.var 2) (.cons (.str "n") .nil))))
      (.cons (.expr (.sdf 1 (.var 4) (.bl true)))
      .nil))
      (.cons (.fr (.nm 4) (.ex (.cal j (.cons (.var 2) (.cons (.str "a") .nil))))
      (.cons (.expr (.sdf 1 (.var 4) (.bl false)))
      .nil))
      .nil)))
      (.cons (.asg (.nm 3) (.lockd 1 (.cmpr (.var 4) (.nm 4) [4] (.ex (.var 1)) (.nt (.ix (.var 1) (.var 4))))))
      (.cons (.ret (.tup (.cons (.b1 .tuple (.b1 .sorted (.var 3))) (.cons (.b1 .tuple (.b1 .sorted (.lockd 1 (.cmpr (.var 4) (.nm 4) [4] (.ex (.var 1)) (.ix (.var 1) (.var 4)))))) .nil))))
      .nil))))⟩
theorem sel_len {ks : Str} {items : List D} {c : Nat} : (selD ks items c).length ≤ ks.cps.toList.length := by
  unfold selD
  rw [List.length_map]
  refine Nat.le_trans (List.length_filter_le ..) ?_
  rw [List.length_zip]
  omega
theorem DeedN.few {x : D} {y : Option Str × List Str} (h : DeedN x y) : y.2.length ≤ 6 := by
  obtain ⟨w, ks, items, _, el, _, _, h5, _⟩ := h.ex
  have a := congrArg List.length h5
  rw [List.length_map] at a
  have := sel_len (ks := ks) (items := items) (c := 97)
  have := look_short el
  omega
def okS (o : Option D) : Bool := match o with
  | some d => noFz d
  | none => true
/-- a loop that sets names -/
theorem sd_loop {cf : Nat → List D → C} {b : Bool} {xs : List Str} {C : List (Str × Bool)} {d0 d2 d3 d4 : Option D} {N : PD.Env → Prop} {Tq : D → PD.Env → Prop} {B Ct : PD.Env → Prop} (hl : C.length + xs.length < 1000000) (h4 : okS d4 = true)
    (fin : ∀ u, okS u = true → N [d0, some (.dct false (kvC (xs.foldl (fun C z => sdB C b z) C))), d2, d3, u]) :
    wF G cf wf (.cons (.expr (.sdf 1 (.var 4) (.bl b))) .nil) (.nm 4) (xs.map .str) [d0, some (.dct false (kvC C)), d2, d3, d4] N Tq B Ct X ⟨⟩ := by
  refine wF_inv (fun i ρ => ∃ u, okS u = true ∧ ρ = [d0, some (.dct false (kvC ((xs.take i).foldl (fun C z => sdB C b z) C))), d2, d3, u]) ⟨d4, h4, rfl⟩ ?_ ?_
  · rintro i d ρ hd ⟨u, hu, rfl⟩
    rw [List.getElem?_map] at hd
    cases hx : xs[i]? with
    | none => rw [hx] at hd; cases hd
    | some z =>
      rw [hx] at hd
      cases hd
      have tk : xs.take (i + 1) = xs.take i ++ [z] := by rw [List.take_succ, hx]; rfl
      have len : ∀ (l : List Str) (C : List (Str × Bool)), (l.foldl (fun C z => sdB C b z) C).length ≤ C.length + l.length := by
        intro l
        induction l with
        | nil => intro C; simp
        | cons a l ih =>
          intro C
          rw [List.foldl_cons]
          have := ih (sdB C b a)
          have := sdB_len (C := C) (b := b) (z := a)
          rw [List.length_cons]
          omega
      have l1 := len (xs.take i) C
      have l2 : (xs.take i).length ≤ xs.length := by rw [List.length_take]; omega
      have sz := sizeLine_eq
      walk_at "ev"
      simp only [kvC_len, sdfK_eq]
      refine ⟨by omega, ?_⟩
      rw [List.foldl_append]
      exact ⟨some (.str z), rfl, rfl⟩
  · rintro ρ ⟨u, hu, rfl⟩
    rw [List.length_map, List.take_length]
    exact fin u hu
theorem stepP_two (C : List (Str × Bool)) (y : Option Str × List Str) : stepP C y.1 y.2 = y.2.foldl (fun C z => sdB C false z) (y.1.toList.foldl (fun C z => sdB C true z) C) := by
  unfold stepP
  cases y.1 <;> rfl
theorem fold_len (b : Bool) : ∀ (l : List Str) (C : List (Str × Bool)), (l.foldl (fun C z => sdB C b z) C).length ≤ C.length + l.length
  | [], C => by simp
  | a :: l, C => by
    rw [List.foldl_cons]
    have := fold_len b l (sdB C b a)
    have := sdB_len (C := C) (b := b) (z := a)
    rw [List.length_cons]
    omega
theorem fold_nodup (b : Bool) : ∀ (l : List Str) (C : List (Str × Bool)), (C.map (·.1)).Nodup → ((l.foldl (fun C z => sdB C b z) C).map (·.1)).Nodup
  | [], C, h => h
  | a :: l, C, h => fold_nodup b l _ (sdB_nodup h)
def isB (C : List (Str × Bool)) (b : Bool) (d : D) : Bool := match d with
  | .str z => C.any fun p => decide (p.1 = z) && (p.2 == b)
  | _ => false
theorem isB_key {C : List (Str × Bool)} (h : (C.map (·.1)).Nodup) (b : Bool) : ∀ p ∈ C, isB C b (.str p.1) = (p.2 == b) := fun p hp => by
  show (C.any fun q => decide (q.1 = p.1) && (q.2 == b)) = _
  have g := get_kvC h hp
  cases e : p.2 == b with
  | true => exact List.any_eq_true.mpr ⟨p, hp, by simp [e]⟩
  | false =>
    refine List.any_eq_false.mpr fun q hq hh => ?_
    simp only [Bool.and_eq_true, decide_eq_true_eq] at hh
    have g2 := get_kvC h hq
    rw [hh.1, g] at g2
    have g3 := D.bl.inj (Option.some.inj g2)
    rw [g3, hh.2] at e
    cases e
theorem fz_ok {xs : List D} {y a b c : Option D} (h : noFzL xs = true) (ha : okS a = true) (hb : okS b = true) (hc : okS c = true) : fzE 1 [some (.tup xs), y, a, b, c] = true := by
  unfold fzE
  show ([some (.tup xs), none, a, b, c] : List (Option D)).all _ = true
  simp only [List.all_cons, List.all_nil, Bool.and_true, Bool.and_eq_true]
  refine ⟨h, trivial, ?_, ?_, ?_⟩
  · cases a <;> first | rfl | exact ha
  · cases b <;> first | rfl | exact hb
  · cases c <;> first | rfl | exact hc
theorem keys_fil {C : List (Str × Bool)} (h : (C.map (·.1)).Nodup) (b : Bool) : ((kvC C).map (·.1)).filter (isB C b) = ((C.filter fun p => p.2 == b).map (·.1)).map .str := by
  have key : ∀ p ∈ C, isB C b (.str p.1) = (p.2 == b) := fun p hp => by
    show (C.any fun q => decide (q.1 = p.1) && (q.2 == b)) = _
    have g := get_kvC h hp
    cases e : p.2 == b with
    | true => exact List.any_eq_true.mpr ⟨p, hp, by simp [e]⟩
    | false =>
      refine List.any_eq_false.mpr fun q hq hh => ?_
      simp only [Bool.and_eq_true, decide_eq_true_eq] at hh
      have g2 := get_kvC h hq
      rw [hh.1, g] at g2
      have g3 := D.bl.inj (Option.some.inj g2)
      rw [g3, hh.2] at e
      cases e
  unfold kvC
  rw [List.map_map, List.filter_map, List.map_map]
  have : (C.filter (isB C b ∘ ((fun x => x.1) ∘ fun p => (D.str p.1, D.bl p.2)))) = C.filter fun p => p.2 == b := List.filter_congr fun p hp => key p hp
  rw [this]
  rfl
theorem fls_eq (C : List (Str × Bool)) : (C.filter fun p => p.2 == false).map (·.1) = fls C := by
  unfold fls
  congr 2
  funext p
  cases p.2 <;> rfl
theorem trs_eq (C : List (Str × Bool)) : (C.filter fun p => p.2 == true).map (·.1) = trs C := by
  unfold trs
  congr 2
  funext p
  cases p.2 <;> rfl
theorem noFzK_kvC : ∀ C : List (Str × Bool), noFzK (kvC C) = true
  | [] => rfl
  | (z, b) :: C => by
    show (noFz (.bl b) && noFzK (kvC C)) = true
    rw [noFzK_kvC C]; rfl
theorem noFzL_str : ∀ xs : List Str, noFzL (xs.map .str) = true
  | [] => rfl
  | z :: xs => by
    show (noFz (.str z) && noFzL (xs.map .str)) = true
    rw [noFzL_str xs]; rfl
theorem names_w {j gP : Nat} {xs : List D} {ys : List (Option Str × List Str)} {m : Nat} (hF : fns[f]? = some (namesFn j)) (hJ : fns[j]? = some (namedFn gP)) (hg : G[gP]? = some (.dct false tabD)) (hn : 2 ≤ n) (hxy : xs.length = ys.length) (hd : ∀ (i : Nat) (x : D) (y : Option Str × List Str), xs[i]? = some x → ys[i]? = some y → DeedN x y) (hl : xs.length ≤ 100) (hp : plnL m xs = true) (hfz : noFzL xs = true)
    (k : ∀ io, Q (.tup [.tup ((srtS (fls (ys.foldl (fun C x => stepP C x.1 x.2) []))).map .str), .tup ((srtS (trs (ys.foldl (fun C x => stepP C x.1 x.2) []))).map .str)]) io) : wC (callF G fns wf n f [.tup xs]) Q X := by
  refine wC_callF hF (by omega) rfl ?_
  unfold namesFn
  have eN : ("n" : Str) = ⟨#[110]⟩ := by decide +kernel
  have eA : ("a" : Str) = ⟨#[97]⟩ := by decide +kernel
  walk_at "ev"
  refine wF_inv (fun i ρ => ∃ a c, ρ = [some (.tup xs), some (.dct false (kvC ((ys.take i).foldl (fun C x => stepP C x.1 x.2) []))), a, none, c] ∧ okS a = true ∧ okS c = true ∧ ((ys.take i).foldl (fun C x => stepP C x.1 x.2) []).length ≤ 7 * i ∧ (((ys.take i).foldl (fun C x => stepP C x.1 x.2) []).map (·.1)).Nodup) ⟨_, _, rfl, rfl, rfl, by simp, by simp⟩ ?_ ?_
  · rintro i d ρ hx ⟨a, c, rfl, oa, oc, h1, h2⟩
    have hlt : i < xs.length := (List.getElem?_eq_some_iff.mp hx).1
    obtain ⟨y, hy⟩ : ∃ y, ys[i]? = some y := ⟨ys[i]'(by omega), by simp [show i < ys.length by omega]⟩
    have dn := hd i d y hx hy
    have few := dn.few
    have od : okS (some d) = true := by
      have go : ∀ (l : List D), noFzL l = true → ∀ x ∈ l, noFz x = true := by
        intro l
        induction l with
        | nil => exact fun _ x hx => by cases hx
        | cons z l ih =>
          intro h x hx
          have h : (noFz z && noFzL l) = true := h
          rw [Bool.and_eq_true] at h
          rcases List.mem_cons.mp hx with e | e
          · rw [e]; exact h.1
          · exact ih h.2 x e
      exact go xs hfz d (List.mem_of_getElem? hx)
    obtain ⟨w, ks, items, rfl, el, e2, e3, e4, e5, e6⟩ := dn.ex
    have tk : ys.take (i + 1) = ys.take i ++ [y] := by rw [List.take_succ, hy]; rfl
    rw [tk, List.foldl_append]
    generalize hC : (ys.take i).foldl (fun C x => stepP C x.1 x.2) [] = C at *
    have ny : y.1.toList.length ≤ 1 := by cases y.1 <;> simp
    have l1 := fold_len true y.1.toList C
    have l2 := fold_len false y.2 (y.1.toList.foldl (fun C z => sdB C true z) C)
    walk_at "ev"
    refine named_w hJ hg (by omega) el e2 fun io => ?_
    rw [e3]
    walk_at "ev"
    refine sd_loop (by omega) oc fun u hu => ?_
    walk_at "ev"
    refine named_w hJ hg (by omega) el e2 fun io => ?_
    rw [e4]
    walk_at "ev"
    refine sd_loop (by omega) hu fun v hv => ?_
    walk_at "ev"
    rw [List.foldl_cons, List.foldl_nil, stepP_two]
    exact ⟨_, _, rfl, od, hv, by omega, fold_nodup _ _ _ (fold_nodup _ _ _ h2)⟩
  · rintro ρ ⟨a, c, rfl, oa, oc, h1, h2⟩
    rw [hxy, List.take_length] at *
    generalize hC : ys.foldl (fun C x => stepP C x.1 x.2) [] = C at *
    have len : (kvC C).length = C.length := kvC_len C
    have cond : ∀ (b : Bool) (d : D), d ∈ (kvC C).map (fun x => x.1) → ∃ p ∈ C, d = .str p.1 ∧ dget (kvC C) (.str p.1) = some (.bl p.2) := fun b d hd => by
      obtain ⟨q, hq, rfl⟩ := List.mem_map.mp hd
      obtain ⟨p, hp, rfl⟩ := List.mem_map.mp hq
      exact ⟨p, hp, rfl, get_kvC h2 hp⟩
    walk_at "ev"
    refine ⟨fitn_of (by rw [List.length_map]; omega), ?_⟩
    refine wL_fil (isB C false) (fun d hd' => ?_) (by simp) (fun u => ?_) ⟨c, rfl⟩
    · obtain ⟨p, hp', rfl, g⟩ := cond false d hd'
      have key := isB_key h2 false p hp'
      walk_at "ev"
      cases p.2 <;> simp
    · rw [keys_fil h2, fls_eq]
      walk_at "ev"
      refine ⟨by rw [Bool.and_eq_true]; exact ⟨noFzL_str _, fz_ok hfz oa rfl oc⟩, ?_⟩
      have l1 : (fls C).length ≤ C.length := by unfold fls; rw [List.length_map]; exact List.length_filter_le ..
      have l2 : (trs C).length ≤ C.length := by unfold trs; rw [List.length_map]; exact List.length_filter_le ..
      have s1 := strsD_map (fls C)
      have s2 := strsD_map (trs C)
      walk_at "ev"
      refine ⟨fitn_of (by rw [List.length_map]; omega), ?_⟩
      refine wL_fil (isB C true) (fun d hd' => ?_) (by simp) (fun u => ?_) ⟨c, rfl⟩
      · obtain ⟨p, hp', rfl, g⟩ := cond true d hd'
        have key := isB_key h2 true p hp'
        walk_at "ev"
        cases p.2 <;> simp
      · rw [keys_fil h2, trs_eq]
        walk_at "ev"
        rw [Bool.and_eq_true]
        exact ⟨noFzL_str _, fz_ok hfz oa (noFzL_str _) oc⟩
end
end PD
end

section
set_option Elab.async false
set_option linter.all false
set_option maxRecDepth 100000
set_option maxHeartbeats 1000000
namespace PD
open PySem PySem.Spec PyProof.Rows L2
local macro_rules | `(tactic| walk_at "ev") => `(tactic| simp only [↓wE_lockd, ↓wE_sdf, ↓wE_var, ↓wE_bor, ↓wE_non, ↓wE_nop, ↓wE_bl, ↓wE_int, ↓wE_str, ↓wE_glo, ↓wE_tup, ↓wE_lst, ↓wE_dct, ↓wE_bin, ↓wE_neg, ↓wE_cmp, ↓wE_chn, ↓wE_nt, ↓wE_an, ↓wE_orr, ↓wE_ite, ↓wE_ix, ↓wE_sl, ↓wE_rev, ↓wE_cal, ↓wE_b1, ↓wE_b2, ↓wE_isi, ↓wE_m0, ↓wE_m1, ↓wE_mm0, ↓wE_mm1, ↓wE_cmpr, ↓wE_gin, ↓wE_gget, ↓wEs_nil, ↓wEs_cons, ↓wI_ex, ↓wI_rng1, ↓wI_rng2, ↓wI_zip, ↓wI_enum, ↓wS_asg, ↓wS_own, ↓wS_par, ↓wS_setix, ↓wS_expr, ↓wS_ite, ↓wS_whl, ↓wS_fr, ↓wS_ret, ↓wS_retN, ↓wS_retO, ↓wS_pass, ↓wS_brk, ↓wS_cnt, ↓wSs_nil, ↓wSs_cons, ↓q_fx_lockd, ↓q_fx_sdf, ↓q_fx_var, ↓q_fx_non, ↓q_fx_bl, ↓q_fx_int, ↓q_fx_str, ↓q_fx_nop, ↓q_fx_glo, ↓q_fx_tup, ↓q_fx_lst, ↓q_fx_dct, ↓q_fx_bin, ↓q_fx_neg, ↓q_fx_cmp, ↓q_fx_chn, ↓q_fx_nt, ↓q_fx_an, ↓q_fx_orr, ↓q_fx_ite, ↓q_fx_ix, ↓q_fx_sl, ↓q_fx_rev, ↓q_fx_cal, ↓q_fx_b1, ↓q_fx_b2, ↓q_fx_isi, ↓q_fx_m0, ↓q_fx_m1, ↓q_fx_m2, ↓q_fx_mm0, ↓q_fx_mm1, ↓q_fx_cmpr, ↓q_fx_gin, ↓q_fx_gget, ↓q_fx_bor, ↓q_fxs_nil, ↓q_fxs_cons, ↓q_lk_z, ↓q_lk_s, ↓q_wO_s, ↓q_ixO_nop, ↓q_ixO_lockd, ↓q_ixO_sdf, ↓q_ixO_var, ↓q_ixO_non, ↓q_ixO_bl, ↓q_ixO_int, ↓q_ixO_str, ↓q_ixO_glo, ↓q_ixO_tup, ↓q_ixO_lst, ↓q_ixO_dct, ↓q_ixO_bin, ↓q_ixO_neg, ↓q_ixO_cmp, ↓q_ixO_chn, ↓q_ixO_nt, ↓q_ixO_an, ↓q_ixO_orr, ↓q_ixO_ite, ↓q_ixO_ix, ↓q_ixO_sl, ↓q_ixO_rev, ↓q_ixO_cal, ↓q_ixO_b1, ↓q_ixO_b2, ↓q_ixO_isi, ↓q_ixO_m0, ↓q_ixO_m1, ↓q_ixO_m2, ↓q_ixO_mm0, ↓q_ixO_mm1, ↓q_ixO_cmpr, ↓q_ixO_gin, ↓q_ixO_gget, ↓q_asgT_nm, ↓q_asgT_tp, ↓q_asgT_tl, ↓q_it_fz, ↓q_ix_fz, ↓q_ix_dct, ↓q_srt, ↓q_sst, ↓q_sdf, ↓q_dctO, ↓q_setAll_nil, ↓q_setAll_cons, ↓q_wT_non, ↓q_wT_bl, ↓q_wT_int, ↓q_wT_tup, ↓q_wT_lst, ↓q_wT_str, ↓q_wB_bl, ↓q_wInt_int, ↓q_bin_add, ↓q_bin_sub, ↓q_bin_mul, ↓q_bin_mod, ↓q_bin_fdiv, ↓q_bin_pow, ↓q_bin_adds, ↓q_bin_addt, ↓q_bin_addl, ↓q_neg_int, ↓q_cmp_lt, ↓q_cmp_le, ↓q_cmp_gt, ↓q_cmp_ge, ↓q_cmp_eq, ↓q_cmp_ne, ↓q_cmp_in, ↓q_cmp_nin, ↓q_cmp_is, ↓q_cmp_isn, ↓q_eq_int, ↓q_eq_str, ↓q_eq_tupn, ↓q_eq_ntup, ↓q_eq_lstn, ↓q_in_str, ↓q_ix_lst, ↓q_ix_tup, ↓q_ix_scr, ↓q_ix_str, ↓q_sl_tup, ↓q_sl_lst, ↓q_sl_scr, ↓q_sl_str, ↓q_rev_tup, ↓q_rev_lst, ↓q_rev_str, ↓q_len_lst, ↓q_len_tup, ↓q_len_scr, ↓q_len_str, ↓q_abs_int, ↓q_int_int, ↓q_int_bl, ↓q_str_int, ↓q_all_lst, ↓q_any_lst, ↓q_tup_lst, ↓q_tup_tup, ↓q_lst_tup, ↓q_lst_lst, ↓q_rep_any, ↓q_max_two, ↓q_min_two, ↓q_up_str, ↓q_split_str, ↓q_join_str, ↓q_strip_str, ↓q_index_lst, ↓q_app_lst, ↓q_ext_lst, ↓q_pop_lst, ↓q_ty_list, ↓q_ty_str, ↓q_ty_str2, ↓q_ty_str3, ↓q_ty_idx, ↓q_set_lst, ↓q_strO_str, ↓q_it_tup, ↓q_it_lst, ↓q_it_scr, ↓q_it_str, ↓q_zip_st, ↓q_zip_ll, ↓q_zip_tt, ↓q_enum_l, ↓q_enum_t, ↓q_isi_non, ↓q_isi_bl, ↓q_isi_int, ↓q_isi_str, ↓q_isi_tup, ↓q_isi_lst, ↓q_isi_dct, ↓q_at0, ↓q_at1, ↓q_at2, ↓q_at3, ↓q_ixn0, ↓q_ixn1, ↓q_ixn2, ↓q_ixn3, ↓q_ixn4, ↓q_ixn5, ↓q_ixn6, ↓q_ixn7, ↓q_lkn, ↓q_lkn0, ↓q_lk0, ↓q_lkS, ↓q_wipe_nil, ↓q_wipe_cons, ↓q_back_nil, ↓q_back_cons, ↓q_ty_int_int, ↓q_ty_int_str, ↓q_ty_int_bool, ↓q_ty_int_tuple, ↓q_ty_int_list, ↓q_ty_int_dict, ↓q_ty_str_int, ↓q_ty_str_str, ↓q_ty_str_bool, ↓q_ty_str_tuple, ↓q_ty_str_list, ↓q_ty_str_dict, ↓q_ty_bool_int, ↓q_ty_bool_str, ↓q_ty_bool_bool, ↓q_ty_bool_tuple, ↓q_ty_bool_list, ↓q_ty_bool_dict, ↓q_ty_tuple_int, ↓q_ty_tuple_str, ↓q_ty_tuple_bool, ↓q_ty_tuple_tuple, ↓q_ty_tuple_list, ↓q_ty_tuple_dict, ↓q_ty_list_int, ↓q_ty_list_str, ↓q_ty_list_bool, ↓q_ty_list_tuple, ↓q_ty_list_list, ↓q_ty_list_dict, ↓q_ty_dict_int, ↓q_ty_dict_str, ↓q_ty_dict_bool, ↓q_ty_dict_tuple, ↓q_ty_dict_list, ↓q_ty_dict_dict, ↓q_kvs, ↓q_fit0, ↓q_fit1, ↓q_fit2, ↓q_fit3, ↓q_fit4, ↓q_fit5, ↓q_fit6, ↓q_fit7, ↓q_fit8, ↓q_fit9, ↓q_fit10, ↓q_fit11, ↓q_fit12, ↓q_fit13, ↓q_fit14, ↓q_fit15, ↓q_fit16, ↓q_fit17, ↓q_fit18, ↓q_fit19, ↓q_fit20, ↓q_fit21, ↓q_fit22, ↓q_fit23, ↓q_fit24, ↓q_fit25, ↓q_fit26, ↓q_fit27, ↓q_fit28, ↓q_fit29, ↓q_fit30, ↓q_fit31, ↓q_fit32, ↓q_fit33, ↓q_fit34, ↓q_fit35, ↓q_fit36, ↓q_fit37, ↓q_fit38, ↓q_fit39, ↓q_fit40, ↓q_putIo, ↓q_cl_nil, ↓q_cl_bor, ↓q_pio_nil, ↓q_pio_bor, ↓q_cl_lockd, ↓q_pio_lockd, ↓q_cl_sdf, ↓q_pio_sdf, ↓q_cl_var, ↓q_pio_var, ↓q_cl_non, ↓q_pio_non, ↓q_cl_bl, ↓q_pio_bl, ↓q_cl_int, ↓q_pio_int, ↓q_cl_str, ↓q_pio_str, ↓q_cl_nop, ↓q_pio_nop, ↓q_cl_glo, ↓q_pio_glo, ↓q_cl_tup, ↓q_pio_tup, ↓q_cl_lst, ↓q_pio_lst, ↓q_cl_dct, ↓q_pio_dct, ↓q_cl_bin, ↓q_pio_bin, ↓q_cl_neg, ↓q_pio_neg, ↓q_cl_cmp, ↓q_pio_cmp, ↓q_cl_chn, ↓q_pio_chn, ↓q_cl_nt, ↓q_pio_nt, ↓q_cl_an, ↓q_pio_an, ↓q_cl_orr, ↓q_pio_orr, ↓q_cl_ite, ↓q_pio_ite, ↓q_cl_ix, ↓q_pio_ix, ↓q_cl_sl, ↓q_pio_sl, ↓q_cl_rev, ↓q_pio_rev, ↓q_cl_cal, ↓q_pio_cal, ↓q_cl_b1, ↓q_pio_b1, ↓q_cl_b2, ↓q_pio_b2, ↓q_cl_isi, ↓q_pio_isi, ↓q_cl_m0, ↓q_pio_m0, ↓q_cl_m1, ↓q_pio_m1, ↓q_cl_m2, ↓q_pio_m2, ↓q_cl_mm0, ↓q_pio_mm0, ↓q_cl_mm1, ↓q_pio_mm1, ↓q_cl_cmpr, ↓q_pio_cmpr, ↓q_cl_gin, ↓q_pio_gin, ↓q_cl_gget, ↓q_pio_gget, q_fx_lockd, q_fx_sdf, q_fx_var, q_fx_non, q_fx_bl, q_fx_int, q_fx_str, q_fx_nop, q_fx_glo, q_fx_tup, q_fx_lst, q_fx_dct, q_fx_bin, q_fx_neg, q_fx_cmp, q_fx_chn, q_fx_nt, q_fx_an, q_fx_orr, q_fx_ite, q_fx_ix, q_fx_sl, q_fx_rev, q_fx_cal, q_fx_b1, q_fx_b2, q_fx_isi, q_fx_m0, q_fx_m1, q_fx_m2, q_fx_mm0, q_fx_mm1, q_fx_cmpr, q_fx_gin, q_fx_gget, q_fx_bor, q_fxs_nil, q_fxs_cons, q_lk_z, q_lk_s, q_wO_s, q_ixO_nop, q_ixO_lockd, q_ixO_sdf, q_ixO_var, q_ixO_non, q_ixO_bl, q_ixO_int, q_ixO_str, q_ixO_glo, q_ixO_tup, q_ixO_lst, q_ixO_dct, q_ixO_bin, q_ixO_neg, q_ixO_cmp, q_ixO_chn, q_ixO_nt, q_ixO_an, q_ixO_orr, q_ixO_ite, q_ixO_ix, q_ixO_sl, q_ixO_rev, q_ixO_cal, q_ixO_b1, q_ixO_b2, q_ixO_isi, q_ixO_m0, q_ixO_m1, q_ixO_m2, q_ixO_mm0, q_ixO_mm1, q_ixO_cmpr, q_ixO_gin, q_ixO_gget, q_asgT_nm, q_asgT_tp, q_asgT_tl, q_it_fz, q_ix_fz, q_ix_dct, q_srt, q_sst, q_sdf, q_dctO, q_setAll_nil, q_setAll_cons, q_wT_non, q_wT_bl, q_wT_int, q_wT_tup, q_wT_lst, q_wT_str, q_wB_bl, q_wInt_int, q_bin_add, q_bin_sub, q_bin_mul, q_bin_mod, q_bin_fdiv, q_bin_pow, q_bin_adds, q_bin_addt, q_bin_addl, q_neg_int, q_cmp_lt, q_cmp_le, q_cmp_gt, q_cmp_ge, q_cmp_eq, q_cmp_ne, q_cmp_in, q_cmp_nin, q_cmp_is, q_cmp_isn, q_eq_int, q_eq_str, q_eq_tupn, q_eq_ntup, q_eq_lstn, q_in_str, q_ix_lst, q_ix_tup, q_ix_scr, q_ix_str, q_sl_tup, q_sl_lst, q_sl_scr, q_sl_str, q_rev_tup, q_rev_lst, q_rev_str, q_len_lst, q_len_tup, q_len_scr, q_len_str, q_abs_int, q_int_int, q_int_bl, q_str_int, q_all_lst, q_any_lst, q_tup_lst, q_tup_tup, q_lst_tup, q_lst_lst, q_rep_any, q_max_two, q_min_two, q_up_str, q_split_str, q_join_str, q_strip_str, q_index_lst, q_app_lst, q_ext_lst, q_pop_lst, q_ty_list, q_ty_str, q_ty_str2, q_ty_str3, q_ty_idx, q_set_lst, q_strO_str, q_it_tup, q_it_lst, q_it_scr, q_it_str, q_zip_st, q_zip_ll, q_zip_tt, q_enum_l, q_enum_t, q_isi_non, q_isi_bl, q_isi_int, q_isi_str, q_isi_tup, q_isi_lst, q_isi_dct, q_at0, q_at1, q_at2, q_at3, q_ixn0, q_ixn1, q_ixn2, q_ixn3, q_ixn4, q_ixn5, q_ixn6, q_ixn7, q_lkn, q_lkn0, q_lk0, q_lkS, q_wipe_nil, q_wipe_cons, q_back_nil, q_back_cons, q_ty_int_int, q_ty_int_str, q_ty_int_bool, q_ty_int_tuple, q_ty_int_list, q_ty_int_dict, q_ty_str_int, q_ty_str_str, q_ty_str_bool, q_ty_str_tuple, q_ty_str_list, q_ty_str_dict, q_ty_bool_int, q_ty_bool_str, q_ty_bool_bool, q_ty_bool_tuple, q_ty_bool_list, q_ty_bool_dict, q_ty_tuple_int, q_ty_tuple_str, q_ty_tuple_bool, q_ty_tuple_tuple, q_ty_tuple_list, q_ty_tuple_dict, q_ty_list_int, q_ty_list_str, q_ty_list_bool, q_ty_list_tuple, q_ty_list_list, q_ty_list_dict, q_ty_dict_int, q_ty_dict_str, q_ty_dict_bool, q_ty_dict_tuple, q_ty_dict_list, q_ty_dict_dict, q_kvs, q_fit0, q_fit1, q_fit2, q_fit3, q_fit4, q_fit5, q_fit6, q_fit7, q_fit8, q_fit9, q_fit10, q_fit11, q_fit12, q_fit13, q_fit14, q_fit15, q_fit16, q_fit17, q_fit18, q_fit19, q_fit20, q_fit21, q_fit22, q_fit23, q_fit24, q_fit25, q_fit26, q_fit27, q_fit28, q_fit29, q_fit30, q_fit31, q_fit32, q_fit33, q_fit34, q_fit35, q_fit36, q_fit37, q_fit38, q_fit39, q_fit40, q_putIo, q_cl_nil, q_cl_bor, q_pio_nil, q_pio_bor, q_cl_lockd, q_pio_lockd, q_cl_sdf, q_pio_sdf, q_cl_var, q_pio_var, q_cl_non, q_pio_non, q_cl_bl, q_pio_bl, q_cl_int, q_pio_int, q_cl_str, q_pio_str, q_cl_nop, q_pio_nop, q_cl_glo, q_pio_glo, q_cl_tup, q_pio_tup, q_cl_lst, q_pio_lst, q_cl_dct, q_pio_dct, q_cl_bin, q_pio_bin, q_cl_neg, q_pio_neg, q_cl_cmp, q_pio_cmp, q_cl_chn, q_pio_chn, q_cl_nt, q_pio_nt, q_cl_an, q_pio_an, q_cl_orr, q_pio_orr, q_cl_ite, q_pio_ite, q_cl_ix, q_pio_ix, q_cl_sl, q_pio_sl, q_cl_rev, q_pio_rev, q_cl_cal, q_pio_cal, q_cl_b1, q_pio_b1, q_cl_b2, q_pio_b2, q_cl_isi, q_pio_isi, q_cl_m0, q_pio_m0, q_cl_m1, q_pio_m1, q_cl_m2, q_pio_m2, q_cl_mm0, q_pio_mm0, q_cl_mm1, q_pio_mm1, q_cl_cmpr, q_pio_cmpr, q_cl_gin, q_pio_gin, q_cl_gget, q_pio_gget, List.set_cons_zero, List.set_cons_succ, List.length_cons, List.length_nil, List.map_cons, List.map_nil, List.replicate_succ, List.replicate_zero, List.cons_append, List.nil_append, List.take_succ_cons, List.take_zero, true_and, and_true, Bool.not_true, Bool.not_false, if_true, Bool.false_eq_true, if_false, cond_true, cond_false, List.isEmpty_cons, List.isEmpty_nil, Option.isNone_some, Bool.or_true, Bool.true_or, Bool.or_false, Bool.false_or, Bool.and_true, Bool.true_and, Bool.and_false, Bool.false_and, Nat.reduceAdd, Nat.reduceSub, Nat.reduceLT, Nat.reduceLeDiff, Nat.zero_add, Int.reduceLT, Int.reduceLE, reduceCtorEq, decide_eq_true_eq, Nat.lt_add_one, Nat.zero_lt_succ, *])
/-! QNY: the law's names, walked -/
section
variable {G : List D} {fns : List Fn} {wf n f : Nat} {Q : D → PD.Env → Prop} {X : XQ} {w ks : Str} {items : List D}
def lOldFn (jR : Nat) : Fn := ⟨1, 3, [false, false, false], true,
      (.cons (.ret (.cmpr (.var 2) (.tp [1, 2]) [1, 2] (.zip (.cal jR (.cons (.ix (.var 0) (.int 0)) .nil)) (.sl (.var 0) (.int 1) .nop)) (.cmp .eq (.var 1) (.str "a"))))
      .nil)⟩
theorem lOld_w {jR : Nat} (hF : fns[f]? = some (lOldFn jR)) (hR : fns[jR]? = some partsFn) (hn : 2 ≤ n) (el : look w = some ks) (hl : items.length = ks.cps.toList.length) (k : ∀ io, Q (.lst (selD ks items 97)) io) :
    wC (callF G fns wf n f [.tup (.str w :: items)]) Q X := by
  refine wC_callF hF (by omega) rfl ?_
  unfold lOldFn
  have eA : ("a" : Str) = ⟨#[97]⟩ := by decide +kernel
  have hc1 := cutD_1 (.str w) items
  have hf : fits ks = true := look_fits el
  walk_at "ev"
  refine parts_w hR (by omega) el fun io => ?_
  walk_at "ev"
  refine ⟨fitn_of ?_, ?_⟩
  · rw [pairD_len]
    have := look_short el
    have : (charsD ks).length = ks.cps.toList.length := by simp [charsD]
    omega
  refine wL_filT (by decide) (fun x y => decide (chr0 x = 97)) (fun x y => y) (fun x y hxy => ?_) (fun u v => ?_) ⟨none, none, rfl⟩
  · obtain ⟨a, ham, rfl⟩ := List.mem_map.mp (List.of_mem_zip hxy).1
    have hch : chr0 (.str ⟨#[a]⟩) = a := rfl
    walk_at "ev"
    by_cases ha : a = 97
    · subst ha
      simp
    · have : ¬ (⟨#[a]⟩ : Str) = ⟨#[97]⟩ := fun h => ha (chr_eq.mp h)
      simp [ha, this]
  · rw [sel_eq]
    walk_at "ev"
    all_goals exact k _
def lNamesFn (j : Nat) : Fn := ⟨1, 5, [false, true, true, false, false], true,
      (.cons (.par [1, 2] (.cons (.lst .nil) (.cons (.lst .nil) .nil)))
      (.cons (.fr (.nm 3) (.ex (.var 0))
      (.cons (.ite (.an (.cmp .eq (.ix (.var 3) (.int 0)) (.str "put")) (.cmp .nin (.ix (.var 3) (.int 1)) (.bin .add (.bor 1) (.bor 2))))
      (.cons (.expr (.mm1 .append 2 (.ix (.var 3) (.int 1))))
      .nil)
      .nil)
      (.cons (.expr (.mm1 .extend 1 (.cmpr (.var 4) (.nm 4) [4] (.ex (.cal j (.cons (.var 3) .nil))) (.cmp .nin (.var 4) (.bin .add (.bor 1) (.bor 2))))))
      .nil)))
      (.cons (.ret (.lst (.cons (.b1 .sset (.bor 1)) (.cons (.b1 .sorted (.bor 2)) .nil))))
      .nil)))⟩
theorem stepL_len (s : List Str × List Str) (n : Option Str) (as : List Str) : (stepL s n as).1.length ≤ s.1.length + as.length ∧ (stepL s n as).2.length ≤ s.2.length + 1 := by
  unfold stepL
  refine ⟨?_, ?_⟩
  · rw [List.length_append]
    exact Nat.add_le_add_left (List.length_filter_le ..) _
  · cases n with
    | none => simp
    | some z =>
      simp only
      split
      · omega
      · simp
def notIn (L : List Str) (d : D) : Bool := match d with
  | .str z => !decide (z ∈ L)
  | _ => false
theorem notIn_fil (L as : List Str) : (as.map .str).filter (notIn L) = (as.filter fun z => !decide (z ∈ L)).map .str := by
  rw [List.filter_map]
  rfl
theorem has_mem (L : List Str) (z : Str) : L.contains z = decide (z ∈ L) := by
  by_cases h : z ∈ L
  · rw [decide_eq_true h]; exact List.contains_iff_mem.mpr h
  · rw [decide_eq_false h]
    cases q : L.contains z with
    | false => rfl
    | true => exact (h (List.contains_iff_mem.mp q)).elim
theorem lNames_w {j jR : Nat} {xs : List D} {ys : List (Option Str × List Str)} (hF : fns[f]? = some (lNamesFn j)) (hJ : fns[j]? = some (lOldFn jR)) (hR : fns[jR]? = some partsFn) (hn : 3 ≤ n) (hxy : xs.length = ys.length) (hd : ∀ (i : Nat) (x : D) (y : Option Str × List Str), xs[i]? = some x → ys[i]? = some y → DeedN x y) (hl : xs.length ≤ 100)
    (k : ∀ io, Q (.lst [.lst ((srtS (dedS (ys.foldl (fun s x => stepL s x.1 x.2) ([], [])).1)).map .str), .lst ((srtS (ys.foldl (fun s x => stepL s x.1 x.2) ([], [])).2).map .str)]) io) : wC (callF G fns wf n f [.tup xs]) Q X := by
  refine wC_callF hF (by omega) rfl ?_
  unfold lNamesFn
  walk_at "ev"
  refine wF_inv (fun i ρ => ∃ a c, ρ = [some (.tup xs), some (.lst ((((ys.take i).foldl (fun s x => stepL s x.1 x.2) ([], [])).1).map .str)), some (.lst ((((ys.take i).foldl (fun s x => stepL s x.1 x.2) ([], [])).2).map .str)), a, c] ∧ ((ys.take i).foldl (fun s x => stepL s x.1 x.2) ([], [])).1.length ≤ 7 * i ∧ ((ys.take i).foldl (fun s x => stepL s x.1 x.2) ([], [])).2.length ≤ 7 * i) ⟨_, _, rfl, by simp, by simp⟩ ?_ ?_
  · rintro i d ρ hx ⟨a, c, rfl, h1, h2⟩
    have hlt : i < xs.length := (List.getElem?_eq_some_iff.mp hx).1
    obtain ⟨y, hy⟩ : ∃ y, ys[i]? = some y := ⟨ys[i]'(by omega), by simp [show i < ys.length by omega]⟩
    have dn := hd i d y hx hy
    have few := dn.few
    obtain ⟨w, ks, items, rfl, el, e2, e3, e4, e5, e6⟩ := dn.ex
    have tk : ys.take (i + 1) = ys.take i ++ [y] := by rw [List.take_succ, hy]; rfl
    rw [tk, List.foldl_append]
    generalize hS : (ys.take i).foldl (fun s x => stepL s x.1 x.2) ([], []) = s at *
    rw [List.foldl_cons, List.foldl_nil]
    have sl := stepL_len s y.1 y.2
    have sz := sizeLine_eq
    walk_at "ev"
    split
    · rename_i hw
      obtain ⟨z, hz⟩ := Option.isSome_iff_exists.mp (e5.mpr hw)
      have hz2 := e6 z hz
      obtain ⟨its, rfl⟩ : ∃ its, items = .str z :: its := by
        cases items with
        | nil => cases hz2
        | cons q its => cases hz2; exact ⟨its, rfl⟩
      have st : stepL s y.1 y.2 = stepL s (some z) y.2 := by rw [hz]
      have i1 := in_strsL z (s.1 ++ s.2)
      have i2 := has_mem (s.1 ++ s.2) z
      rw [List.map_append] at i1
      walk_at "ev"
      refine ⟨fitn_of (by simp only [List.length_map]; omega), ?_⟩
      by_cases hm : z ∈ s.1 ++ s.2
      · rw [if_neg (by simp [hm])]
        have hn : stepL s (some z) y.2 = (s.1 ++ y.2.filter (fun z => !decide (z ∈ s.1 ++ s.2)), s.2) := by
          unfold stepL
          simp only [if_pos hm]
        refine lOld_w hJ hR (by omega) (by rw [← hw]; exact el) e2 fun io => ?_
        rw [e4]
        walk_at "ev"
        refine ⟨fitn_of (by rw [List.length_map]; omega), ?_⟩
        refine wL_fil (notIn (s.1 ++ s.2)) (fun d hd' => ?_) (by simp) (fun u => ?_) ⟨c, rfl⟩
        · obtain ⟨z1, hz1, rfl⟩ := List.mem_map.mp hd'
          have i1 := in_strsL z1 (s.1 ++ s.2)
          have i2 := has_mem (s.1 ++ s.2) z1
          rw [List.map_append] at i1
          walk_at "ev"
          refine ⟨fitn_of (by simp only [List.length_map, List.length_append, List.length_cons, List.length_nil]; omega), ?_⟩
          rfl
        · rw [notIn_fil]
          have fl := List.length_filter_le (fun q1 => !decide (q1 ∈ s.1 ++ s.2)) y.2
          walk_at "ev"
          try rw [hn]
          refine ⟨fitn_of (by simp only [List.length_map]; omega), some (.tup (.str "put" :: .str z :: its)), c, ?_, ?_, ?_⟩
          · simp only [List.map_append]
          · rw [List.length_append]; omega
          · first | omega | (rw [List.length_append, List.length_singleton]; omega)
      · rw [if_pos (by simp [hm])]
        refine ⟨by simp only [List.length_map]; omega, ?_⟩
        have hn : stepL s (some z) y.2 = (s.1 ++ y.2.filter (fun z1 => !decide (z1 ∈ s.1 ++ (s.2 ++ [z]))), s.2 ++ [z]) := by
          unfold stepL
          simp only [if_neg hm]
        have e8 : s.2.map D.str ++ [.str z] = (s.2 ++ [z]).map .str := by simp
        rw [e8]
        refine lOld_w hJ hR (by omega) (by rw [← hw]; exact el) e2 fun io => ?_
        rw [e4]
        walk_at "ev"
        refine ⟨fitn_of (by rw [List.length_map]; omega), ?_⟩
        refine wL_fil (notIn (s.1 ++ (s.2 ++ [z]))) (fun d hd' => ?_) (by simp) (fun u => ?_) ⟨c, rfl⟩
        · obtain ⟨z1, hz1, rfl⟩ := List.mem_map.mp hd'
          have i1 := in_strsL z1 (s.1 ++ (s.2 ++ [z]))
          have i2 := has_mem (s.1 ++ (s.2 ++ [z])) z1
          rw [List.map_append] at i1
          walk_at "ev"
          refine ⟨fitn_of (by simp only [List.length_map, List.length_append, List.length_cons, List.length_nil]; omega), ?_⟩
          rfl
        · rw [notIn_fil]
          have fl := List.length_filter_le (fun q1 => !decide (q1 ∈ s.1 ++ (s.2 ++ [z]))) y.2
          walk_at "ev"
          try rw [hn]
          refine ⟨fitn_of (by simp only [List.length_map]; omega), some (.tup (.str "put" :: .str z :: its)), c, ?_, ?_, ?_⟩
          · simp only [List.map_append]
          · rw [List.length_append]; omega
          · first | omega | (rw [List.length_append, List.length_singleton]; omega)
    · rename_i hw
      have hz : y.1 = none := by
        cases q : y.1 with
        | none => rfl
        | some z => exact (hw (e5.mp (by rw [q]; rfl))).elim
      have hn : stepL s none y.2 = (s.1 ++ y.2.filter (fun z => !decide (z ∈ s.1 ++ s.2)), s.2) := rfl
      refine lOld_w hJ hR (by omega) el e2 fun io => ?_
      rw [e4]
      walk_at "ev"
      refine ⟨fitn_of (by rw [List.length_map]; omega), ?_⟩
      refine wL_fil (notIn (s.1 ++ s.2)) (fun d hd' => ?_) (by simp) (fun u => ?_) ⟨c, rfl⟩
      · obtain ⟨z1, hz1, rfl⟩ := List.mem_map.mp hd'
        have i1 := in_strsL z1 (s.1 ++ s.2)
        have i2 := has_mem (s.1 ++ s.2) z1
        rw [List.map_append] at i1
        walk_at "ev"
        refine ⟨fitn_of (by simp only [List.length_map, List.length_append, List.length_cons, List.length_nil]; omega), ?_⟩
        rfl
      · rw [notIn_fil]
        have fl := List.length_filter_le (fun q1 => !decide (q1 ∈ s.1 ++ s.2)) y.2
        walk_at "ev"
        try rw [hn]
        refine ⟨fitn_of (by simp only [List.length_map]; omega), some (.tup (.str w :: items)), c, ?_, ?_, ?_⟩
        · simp only [List.map_append]
        · rw [List.length_append]; omega
        · first | omega | (rw [List.length_append, List.length_singleton]; omega)
  · rintro ρ ⟨a, c, rfl, h1, h2⟩
    rw [hxy, List.take_length] at *
    generalize hS : ys.foldl (fun s x => stepL s x.1 x.2) ([], []) = s at *
    have s1 := strsD_map s.1
    have s2 := strsD_map s.2
    have sb : scanBound = 4096 := rfl
    walk_at "ev"
    omega
end
end PD
end

section
set_option Elab.async false
set_option linter.all false
set_option maxRecDepth 100000
set_option maxHeartbeats 1000000
namespace PD
open PySem PySem.Spec PyProof.Rows L2
local macro_rules | `(tactic| walk_at "ev") => `(tactic| simp only [↓wE_lockd, ↓wE_sdf, ↓wE_var, ↓wE_bor, ↓wE_non, ↓wE_nop, ↓wE_bl, ↓wE_int, ↓wE_str, ↓wE_glo, ↓wE_tup, ↓wE_lst, ↓wE_dct, ↓wE_bin, ↓wE_neg, ↓wE_cmp, ↓wE_chn, ↓wE_nt, ↓wE_an, ↓wE_orr, ↓wE_ite, ↓wE_ix, ↓wE_sl, ↓wE_rev, ↓wE_cal, ↓wE_b1, ↓wE_b2, ↓wE_isi, ↓wE_m0, ↓wE_m1, ↓wE_mm0, ↓wE_mm1, ↓wE_cmpr, ↓wE_gin, ↓wE_gget, ↓wEs_nil, ↓wEs_cons, ↓wI_ex, ↓wI_rng1, ↓wI_rng2, ↓wI_zip, ↓wI_enum, ↓wS_asg, ↓wS_own, ↓wS_par, ↓wS_setix, ↓wS_expr, ↓wS_ite, ↓wS_whl, ↓wS_fr, ↓wS_ret, ↓wS_retN, ↓wS_retO, ↓wS_pass, ↓wS_brk, ↓wS_cnt, ↓wSs_nil, ↓wSs_cons, ↓q_fx_lockd, ↓q_fx_sdf, ↓q_fx_var, ↓q_fx_non, ↓q_fx_bl, ↓q_fx_int, ↓q_fx_str, ↓q_fx_nop, ↓q_fx_glo, ↓q_fx_tup, ↓q_fx_lst, ↓q_fx_dct, ↓q_fx_bin, ↓q_fx_neg, ↓q_fx_cmp, ↓q_fx_chn, ↓q_fx_nt, ↓q_fx_an, ↓q_fx_orr, ↓q_fx_ite, ↓q_fx_ix, ↓q_fx_sl, ↓q_fx_rev, ↓q_fx_cal, ↓q_fx_b1, ↓q_fx_b2, ↓q_fx_isi, ↓q_fx_m0, ↓q_fx_m1, ↓q_fx_m2, ↓q_fx_mm0, ↓q_fx_mm1, ↓q_fx_cmpr, ↓q_fx_gin, ↓q_fx_gget, ↓q_fx_bor, ↓q_fxs_nil, ↓q_fxs_cons, ↓q_lk_z, ↓q_lk_s, ↓q_wO_s, ↓q_ixO_nop, ↓q_ixO_lockd, ↓q_ixO_sdf, ↓q_ixO_var, ↓q_ixO_non, ↓q_ixO_bl, ↓q_ixO_int, ↓q_ixO_str, ↓q_ixO_glo, ↓q_ixO_tup, ↓q_ixO_lst, ↓q_ixO_dct, ↓q_ixO_bin, ↓q_ixO_neg, ↓q_ixO_cmp, ↓q_ixO_chn, ↓q_ixO_nt, ↓q_ixO_an, ↓q_ixO_orr, ↓q_ixO_ite, ↓q_ixO_ix, ↓q_ixO_sl, ↓q_ixO_rev, ↓q_ixO_cal, ↓q_ixO_b1, ↓q_ixO_b2, ↓q_ixO_isi, ↓q_ixO_m0, ↓q_ixO_m1, ↓q_ixO_m2, ↓q_ixO_mm0, ↓q_ixO_mm1, ↓q_ixO_cmpr, ↓q_ixO_gin, ↓q_ixO_gget, ↓q_asgT_nm, ↓q_asgT_tp, ↓q_asgT_tl, ↓q_it_fz, ↓q_ix_fz, ↓q_ix_dct, ↓q_srt, ↓q_sst, ↓q_sdf, ↓q_dctO, ↓q_setAll_nil, ↓q_setAll_cons, ↓q_wT_non, ↓q_wT_bl, ↓q_wT_int, ↓q_wT_tup, ↓q_wT_lst, ↓q_wT_str, ↓q_wB_bl, ↓q_wInt_int, ↓q_bin_add, ↓q_bin_sub, ↓q_bin_mul, ↓q_bin_mod, ↓q_bin_fdiv, ↓q_bin_pow, ↓q_bin_adds, ↓q_bin_addt, ↓q_bin_addl, ↓q_neg_int, ↓q_cmp_lt, ↓q_cmp_le, ↓q_cmp_gt, ↓q_cmp_ge, ↓q_cmp_eq, ↓q_cmp_ne, ↓q_cmp_in, ↓q_cmp_nin, ↓q_cmp_is, ↓q_cmp_isn, ↓q_eq_int, ↓q_eq_str, ↓q_eq_tupn, ↓q_eq_ntup, ↓q_eq_lstn, ↓q_in_str, ↓q_ix_lst, ↓q_ix_tup, ↓q_ix_scr, ↓q_ix_str, ↓q_sl_tup, ↓q_sl_lst, ↓q_sl_scr, ↓q_sl_str, ↓q_rev_tup, ↓q_rev_lst, ↓q_rev_str, ↓q_len_lst, ↓q_len_tup, ↓q_len_scr, ↓q_len_str, ↓q_abs_int, ↓q_int_int, ↓q_int_bl, ↓q_str_int, ↓q_all_lst, ↓q_any_lst, ↓q_tup_lst, ↓q_tup_tup, ↓q_lst_tup, ↓q_lst_lst, ↓q_rep_any, ↓q_max_two, ↓q_min_two, ↓q_up_str, ↓q_split_str, ↓q_join_str, ↓q_strip_str, ↓q_index_lst, ↓q_app_lst, ↓q_ext_lst, ↓q_pop_lst, ↓q_ty_list, ↓q_ty_str, ↓q_ty_str2, ↓q_ty_str3, ↓q_ty_idx, ↓q_set_lst, ↓q_strO_str, ↓q_it_tup, ↓q_it_lst, ↓q_it_scr, ↓q_it_str, ↓q_zip_st, ↓q_zip_ll, ↓q_zip_tt, ↓q_enum_l, ↓q_enum_t, ↓q_isi_non, ↓q_isi_bl, ↓q_isi_int, ↓q_isi_str, ↓q_isi_tup, ↓q_isi_lst, ↓q_isi_dct, ↓q_at0, ↓q_at1, ↓q_at2, ↓q_at3, ↓q_ixn0, ↓q_ixn1, ↓q_ixn2, ↓q_ixn3, ↓q_ixn4, ↓q_ixn5, ↓q_ixn6, ↓q_ixn7, ↓q_lkn, ↓q_lkn0, ↓q_lk0, ↓q_lkS, ↓q_wipe_nil, ↓q_wipe_cons, ↓q_back_nil, ↓q_back_cons, ↓q_ty_int_int, ↓q_ty_int_str, ↓q_ty_int_bool, ↓q_ty_int_tuple, ↓q_ty_int_list, ↓q_ty_int_dict, ↓q_ty_str_int, ↓q_ty_str_str, ↓q_ty_str_bool, ↓q_ty_str_tuple, ↓q_ty_str_list, ↓q_ty_str_dict, ↓q_ty_bool_int, ↓q_ty_bool_str, ↓q_ty_bool_bool, ↓q_ty_bool_tuple, ↓q_ty_bool_list, ↓q_ty_bool_dict, ↓q_ty_tuple_int, ↓q_ty_tuple_str, ↓q_ty_tuple_bool, ↓q_ty_tuple_tuple, ↓q_ty_tuple_list, ↓q_ty_tuple_dict, ↓q_ty_list_int, ↓q_ty_list_str, ↓q_ty_list_bool, ↓q_ty_list_tuple, ↓q_ty_list_list, ↓q_ty_list_dict, ↓q_ty_dict_int, ↓q_ty_dict_str, ↓q_ty_dict_bool, ↓q_ty_dict_tuple, ↓q_ty_dict_list, ↓q_ty_dict_dict, ↓q_kvs, ↓q_fit0, ↓q_fit1, ↓q_fit2, ↓q_fit3, ↓q_fit4, ↓q_fit5, ↓q_fit6, ↓q_fit7, ↓q_fit8, ↓q_fit9, ↓q_fit10, ↓q_fit11, ↓q_fit12, ↓q_fit13, ↓q_fit14, ↓q_fit15, ↓q_fit16, ↓q_fit17, ↓q_fit18, ↓q_fit19, ↓q_fit20, ↓q_fit21, ↓q_fit22, ↓q_fit23, ↓q_fit24, ↓q_fit25, ↓q_fit26, ↓q_fit27, ↓q_fit28, ↓q_fit29, ↓q_fit30, ↓q_fit31, ↓q_fit32, ↓q_fit33, ↓q_fit34, ↓q_fit35, ↓q_fit36, ↓q_fit37, ↓q_fit38, ↓q_fit39, ↓q_fit40, ↓q_putIo, ↓q_cl_nil, ↓q_cl_bor, ↓q_pio_nil, ↓q_pio_bor, ↓q_cl_lockd, ↓q_pio_lockd, ↓q_cl_sdf, ↓q_pio_sdf, ↓q_cl_var, ↓q_pio_var, ↓q_cl_non, ↓q_pio_non, ↓q_cl_bl, ↓q_pio_bl, ↓q_cl_int, ↓q_pio_int, ↓q_cl_str, ↓q_pio_str, ↓q_cl_nop, ↓q_pio_nop, ↓q_cl_glo, ↓q_pio_glo, ↓q_cl_tup, ↓q_pio_tup, ↓q_cl_lst, ↓q_pio_lst, ↓q_cl_dct, ↓q_pio_dct, ↓q_cl_bin, ↓q_pio_bin, ↓q_cl_neg, ↓q_pio_neg, ↓q_cl_cmp, ↓q_pio_cmp, ↓q_cl_chn, ↓q_pio_chn, ↓q_cl_nt, ↓q_pio_nt, ↓q_cl_an, ↓q_pio_an, ↓q_cl_orr, ↓q_pio_orr, ↓q_cl_ite, ↓q_pio_ite, ↓q_cl_ix, ↓q_pio_ix, ↓q_cl_sl, ↓q_pio_sl, ↓q_cl_rev, ↓q_pio_rev, ↓q_cl_cal, ↓q_pio_cal, ↓q_cl_b1, ↓q_pio_b1, ↓q_cl_b2, ↓q_pio_b2, ↓q_cl_isi, ↓q_pio_isi, ↓q_cl_m0, ↓q_pio_m0, ↓q_cl_m1, ↓q_pio_m1, ↓q_cl_m2, ↓q_pio_m2, ↓q_cl_mm0, ↓q_pio_mm0, ↓q_cl_mm1, ↓q_pio_mm1, ↓q_cl_cmpr, ↓q_pio_cmpr, ↓q_cl_gin, ↓q_pio_gin, ↓q_cl_gget, ↓q_pio_gget, q_fx_lockd, q_fx_sdf, q_fx_var, q_fx_non, q_fx_bl, q_fx_int, q_fx_str, q_fx_nop, q_fx_glo, q_fx_tup, q_fx_lst, q_fx_dct, q_fx_bin, q_fx_neg, q_fx_cmp, q_fx_chn, q_fx_nt, q_fx_an, q_fx_orr, q_fx_ite, q_fx_ix, q_fx_sl, q_fx_rev, q_fx_cal, q_fx_b1, q_fx_b2, q_fx_isi, q_fx_m0, q_fx_m1, q_fx_m2, q_fx_mm0, q_fx_mm1, q_fx_cmpr, q_fx_gin, q_fx_gget, q_fx_bor, q_fxs_nil, q_fxs_cons, q_lk_z, q_lk_s, q_wO_s, q_ixO_nop, q_ixO_lockd, q_ixO_sdf, q_ixO_var, q_ixO_non, q_ixO_bl, q_ixO_int, q_ixO_str, q_ixO_glo, q_ixO_tup, q_ixO_lst, q_ixO_dct, q_ixO_bin, q_ixO_neg, q_ixO_cmp, q_ixO_chn, q_ixO_nt, q_ixO_an, q_ixO_orr, q_ixO_ite, q_ixO_ix, q_ixO_sl, q_ixO_rev, q_ixO_cal, q_ixO_b1, q_ixO_b2, q_ixO_isi, q_ixO_m0, q_ixO_m1, q_ixO_m2, q_ixO_mm0, q_ixO_mm1, q_ixO_cmpr, q_ixO_gin, q_ixO_gget, q_asgT_nm, q_asgT_tp, q_asgT_tl, q_it_fz, q_ix_fz, q_ix_dct, q_srt, q_sst, q_sdf, q_dctO, q_setAll_nil, q_setAll_cons, q_wT_non, q_wT_bl, q_wT_int, q_wT_tup, q_wT_lst, q_wT_str, q_wB_bl, q_wInt_int, q_bin_add, q_bin_sub, q_bin_mul, q_bin_mod, q_bin_fdiv, q_bin_pow, q_bin_adds, q_bin_addt, q_bin_addl, q_neg_int, q_cmp_lt, q_cmp_le, q_cmp_gt, q_cmp_ge, q_cmp_eq, q_cmp_ne, q_cmp_in, q_cmp_nin, q_cmp_is, q_cmp_isn, q_eq_int, q_eq_str, q_eq_tupn, q_eq_ntup, q_eq_lstn, q_in_str, q_ix_lst, q_ix_tup, q_ix_scr, q_ix_str, q_sl_tup, q_sl_lst, q_sl_scr, q_sl_str, q_rev_tup, q_rev_lst, q_rev_str, q_len_lst, q_len_tup, q_len_scr, q_len_str, q_abs_int, q_int_int, q_int_bl, q_str_int, q_all_lst, q_any_lst, q_tup_lst, q_tup_tup, q_lst_tup, q_lst_lst, q_rep_any, q_max_two, q_min_two, q_up_str, q_split_str, q_join_str, q_strip_str, q_index_lst, q_app_lst, q_ext_lst, q_pop_lst, q_ty_list, q_ty_str, q_ty_str2, q_ty_str3, q_ty_idx, q_set_lst, q_strO_str, q_it_tup, q_it_lst, q_it_scr, q_it_str, q_zip_st, q_zip_ll, q_zip_tt, q_enum_l, q_enum_t, q_isi_non, q_isi_bl, q_isi_int, q_isi_str, q_isi_tup, q_isi_lst, q_isi_dct, q_at0, q_at1, q_at2, q_at3, q_ixn0, q_ixn1, q_ixn2, q_ixn3, q_ixn4, q_ixn5, q_ixn6, q_ixn7, q_lkn, q_lkn0, q_lk0, q_lkS, q_wipe_nil, q_wipe_cons, q_back_nil, q_back_cons, q_ty_int_int, q_ty_int_str, q_ty_int_bool, q_ty_int_tuple, q_ty_int_list, q_ty_int_dict, q_ty_str_int, q_ty_str_str, q_ty_str_bool, q_ty_str_tuple, q_ty_str_list, q_ty_str_dict, q_ty_bool_int, q_ty_bool_str, q_ty_bool_bool, q_ty_bool_tuple, q_ty_bool_list, q_ty_bool_dict, q_ty_tuple_int, q_ty_tuple_str, q_ty_tuple_bool, q_ty_tuple_tuple, q_ty_tuple_list, q_ty_tuple_dict, q_ty_list_int, q_ty_list_str, q_ty_list_bool, q_ty_list_tuple, q_ty_list_list, q_ty_list_dict, q_ty_dict_int, q_ty_dict_str, q_ty_dict_bool, q_ty_dict_tuple, q_ty_dict_list, q_ty_dict_dict, q_kvs, q_fit0, q_fit1, q_fit2, q_fit3, q_fit4, q_fit5, q_fit6, q_fit7, q_fit8, q_fit9, q_fit10, q_fit11, q_fit12, q_fit13, q_fit14, q_fit15, q_fit16, q_fit17, q_fit18, q_fit19, q_fit20, q_fit21, q_fit22, q_fit23, q_fit24, q_fit25, q_fit26, q_fit27, q_fit28, q_fit29, q_fit30, q_fit31, q_fit32, q_fit33, q_fit34, q_fit35, q_fit36, q_fit37, q_fit38, q_fit39, q_fit40, q_putIo, q_cl_nil, q_cl_bor, q_pio_nil, q_pio_bor, q_cl_lockd, q_pio_lockd, q_cl_sdf, q_pio_sdf, q_cl_var, q_pio_var, q_cl_non, q_pio_non, q_cl_bl, q_pio_bl, q_cl_int, q_pio_int, q_cl_str, q_pio_str, q_cl_nop, q_pio_nop, q_cl_glo, q_pio_glo, q_cl_tup, q_pio_tup, q_cl_lst, q_pio_lst, q_cl_dct, q_pio_dct, q_cl_bin, q_pio_bin, q_cl_neg, q_pio_neg, q_cl_cmp, q_pio_cmp, q_cl_chn, q_pio_chn, q_cl_nt, q_pio_nt, q_cl_an, q_pio_an, q_cl_orr, q_pio_orr, q_cl_ite, q_pio_ite, q_cl_ix, q_pio_ix, q_cl_sl, q_pio_sl, q_cl_rev, q_pio_rev, q_cl_cal, q_pio_cal, q_cl_b1, q_pio_b1, q_cl_b2, q_pio_b2, q_cl_isi, q_pio_isi, q_cl_m0, q_pio_m0, q_cl_m1, q_pio_m1, q_cl_m2, q_pio_m2, q_cl_mm0, q_pio_mm0, q_cl_mm1, q_pio_mm1, q_cl_cmpr, q_pio_cmpr, q_cl_gin, q_pio_gin, q_cl_gget, q_pio_gget, List.set_cons_zero, List.set_cons_succ, List.length_cons, List.length_nil, List.map_cons, List.map_nil, List.replicate_succ, List.replicate_zero, List.cons_append, List.nil_append, List.take_succ_cons, List.take_zero, true_and, and_true, Bool.not_true, Bool.not_false, if_true, Bool.false_eq_true, if_false, cond_true, cond_false, List.isEmpty_cons, List.isEmpty_nil, Option.isNone_some, Bool.or_true, Bool.true_or, Bool.or_false, Bool.false_or, Bool.and_true, Bool.true_and, Bool.and_false, Bool.false_and, Nat.reduceAdd, Nat.reduceSub, Nat.reduceLT, Nat.reduceLeDiff, Nat.zero_add, Int.reduceLT, Int.reduceLE, reduceCtorEq, decide_eq_true_eq, Nat.lt_add_one, Nat.zero_lt_succ, *])
/-! QNZ: which deeds are right, and what they name -/
theorem strs_of : ∀ {L : List D}, (∀ d ∈ L, ∃ s, d = .str s) → ∃ l : List Str, L = l.map .str
  | [], _ => ⟨[], rfl⟩
  | d :: L, h => by
    obtain ⟨s, rfl⟩ := h d (List.mem_cons_self ..)
    obtain ⟨l, rfl⟩ := strs_of fun d hd => h d (List.mem_cons_of_mem _ hd)
    exact ⟨s :: l, rfl⟩
theorem put_tab {w ks : Str} (h : look w = some ks) : (w = "put" → ks.cps.toList = [110, 97, 105, 97, 105, 118]) ∧ (w ≠ "put" → 110 ∉ ks.cps.toList) := by
  have q : TAB.all (fun p => (!decide (p.1 = "put") || decide (p.2.cps.toList = [110, 97, 105, 97, 105, 118])) && (decide (p.1 = "put") || !decide (110 ∈ p.2.cps.toList))) = true := by decide +kernel
  have r := List.all_eq_true.mp q _ (look_mem h)
  simp only [Bool.and_eq_true, Bool.or_eq_true, Bool.not_eq_true', decide_eq_true_eq, decide_eq_false_iff_not] at r
  exact ⟨fun e => r.1.resolve_left fun n => n e, fun e => r.2.resolve_left e⟩
theorem sel_str {ks : Str} {items : List D} {c : Nat} (hc : c = 97 ∨ c = 110) (h : (ks.cps.toList.zip items).all (fun p => partB p.1 p.2) = true) : ∃ l : List Str, selD ks items c = l.map .str := by
  refine strs_of fun d hd => ?_
  unfold selD at hd
  obtain ⟨p, hp, rfl⟩ := List.mem_map.mp hd
  obtain ⟨h1, h2⟩ := List.mem_filter.mp hp
  have h2 := of_decide_eq_true h2
  have q := List.all_eq_true.mp h p h1
  unfold partB at q
  rw [if_pos (by rw [h2]; exact hc)] at q
  unfold nmD at q
  split at q
  · rename_i s e
    exact ⟨s, e⟩
  · cases q
theorem deedN_of {x : D} (h : deedErr x = .non) : ∃ y, DeedN x y := by
  unfold deedErr at h
  split at h
  · rename_i w items
    split at h
    · rename_i ks el
      split at h
      · rename_i hl
        split at h
        · rename_i ha
          obtain ⟨as, e5⟩ := sel_str (c := 97) (.inl rfl) ha
          obtain ⟨t1, t2⟩ := put_tab el
          by_cases hw : w = "put"
          · have ek := t1 hw
            have hl2 := hl
            rw [ek] at hl2 ha
            match items, hl2 with
            | [i0, i1, i2, i3, i4, i5], _ =>
              have hp : partB 110 i0 = true := List.all_eq_true.mp ha (110, i0) (by simp)
              have hn : nmD i0 = true := by
                unfold partB at hp
                rwa [if_pos (.inr rfl)] at hp
              obtain ⟨z, rfl⟩ : ∃ z, i0 = .str z := by
                unfold nmD at hn
                split at hn
                · rename_i s e
                  exact ⟨s, rfl⟩
                · cases hn
              refine ⟨(some z, as), ⟨w, ks, _, rfl, el, hl, ?_, e5, ⟨fun _ => hw, fun _ => rfl⟩, fun q hq => by
                have hq : some z = some q := hq
                cases hq
                rfl⟩⟩
              unfold selD
              rw [ek]
              rfl
          · refine ⟨(none, as), ⟨w, ks, items, rfl, el, hl, ?_, e5, ⟨fun q => (Bool.false_ne_true q).elim, fun q => (hw q).elim⟩, fun q hq => nomatch (show none = some q from hq)⟩⟩
            unfold selD
            have : (ks.cps.toList.zip items).filter (fun p => decide (p.1 = 110)) = [] := by
              rw [List.filter_eq_nil_iff]
              intro p hp q
              have q := of_decide_eq_true q
              exact t2 hw (q ▸ (List.of_mem_zip (a := p.1) (b := p.2) hp).1)
            rw [this]
            rfl
        · cases h
      · cases h
    · cases h
  · cases h
theorem deeds_of : ∀ {xs : List D}, (∀ x ∈ xs, deedErr x = .non) → ∃ ys : List (Option Str × List Str), xs.length = ys.length ∧ ∀ (i : Nat) (x : D) (y : Option Str × List Str), xs[i]? = some x → ys[i]? = some y → DeedN x y
  | [], _ => ⟨[], rfl, fun i x y h => by simp at h⟩
  | x :: xs, h => by
    obtain ⟨y, hy⟩ := deedN_of (h x (List.mem_cons_self ..))
    obtain ⟨ys, h1, h2⟩ := deeds_of fun x hx => h x (List.mem_cons_of_mem _ hx)
    refine ⟨y :: ys, by simp [h1], fun i a b ha hb => ?_⟩
    cases i with
    | zero => simp at ha hb; subst ha hb; exact hy
    | succ i => exact h2 i a b (by simpa using ha) (by simpa using hb)
mutual
theorem noFz_pln : ∀ (n : Nat) (d : D), pln n d = true → noFz d = true
  | _, .non, _ => rfl
  | _, .bl _, _ => rfl
  | _, .int _, _ => rfl
  | _, .str _, _ => rfl
  | 0, .tup _, p => by simp [pln] at p
  | n + 1, .tup xs, p => noFzL_pln n xs (by simpa [pln] using p)
  | 0, .lst _, p => by simp [pln] at p
  | n + 1, .lst xs, p => noFzL_pln n xs (by simpa [pln] using p)
  | 0, .dct _ _, p => by simp [pln] at p
  | n + 1, .dct t kvs, p => by
    simp only [pln, Bool.and_eq_true] at p
    exact noFzK_pln n kvs p.2
  | _, .fz _, p => by simp [pln] at p
  | _, .scr _, p => by simp [pln] at p
  | _, .obj _ _, p => by simp [pln] at p
theorem noFzL_pln : ∀ (n : Nat) (ds : List D), plnL n ds = true → noFzL ds = true
  | _, [], _ => rfl
  | n, d :: ds, p => by
    simp only [plnL, Bool.and_eq_true] at p
    show (noFz d && noFzL ds) = true
    rw [noFz_pln n d p.1, noFzL_pln n ds p.2]; rfl
theorem noFzK_pln : ∀ (n : Nat) (kvs : List (D × D)), plnL n (kvs.map (·.2)) = true → noFzK kvs = true
  | _, [], _ => rfl
  | n, (k, v) :: r, p => by
    simp only [List.map_cons, plnL, Bool.and_eq_true] at p
    show (noFz v && noFzK r) = true
    rw [noFz_pln n v p.1, noFzK_pln n r p.2]; rfl
end
/-- the first deed that is wrong -/
def badFrom : Nat → List D → Option D
  | _, [] => none
  | i, x :: xs => if isNonD (deedErr x) then badFrom (i + 1) xs else some (.tup [.int (i : Nat), deedErr x])
theorem bad_at : ∀ {xs : List D} {i k : Nat} {x : D}, xs[i]? = some x → (∀ (j : Nat) (y : D), j < i → xs[j]? = some y → isNonD (deedErr y) = true) → isNonD (deedErr x) = false → badFrom k xs = some (.tup [.int ((k + i : Nat) : Int), deedErr x])
  | [], i, k, x, h, _, _ => by simp at h
  | z :: xs, 0, k, x, h, _, hb => by
    simp at h
    subst h
    unfold badFrom
    rw [hb]; rfl
  | z :: xs, i + 1, k, x, h, hj, hb => by
    have h0 := hj 0 z (by omega) (by simp)
    unfold badFrom
    rw [h0, if_pos rfl]
    have := bad_at (xs := xs) (i := i) (k := k + 1) (x := x) (by simpa using h) (fun j y hlt hy => hj (j + 1) y (by omega) (by simpa using hy)) hb
    rw [this, show k + 1 + i = k + (i + 1) by omega]
theorem bad_none : ∀ {xs : List D} {k : Nat}, (∀ (j : Nat) (y : D), xs[j]? = some y → isNonD (deedErr y) = true) → badFrom k xs = none
  | [], _, _ => rfl
  | z :: xs, k, h => by
    unfold badFrom
    rw [h 0 z (by simp), if_pos rfl]
    exact bad_none fun j y hy => h (j + 1) y (by simpa using hy)
end PD
end

section
set_option Elab.async false
set_option linter.all false
set_option maxRecDepth 100000
set_option maxHeartbeats 1000000
namespace PD
open PySem PySem.Spec PyProof.Rows L2
local macro_rules | `(tactic| walk_at "ev") => `(tactic| simp only [↓wE_lockd, ↓wE_sdf, ↓wE_var, ↓wE_bor, ↓wE_non, ↓wE_nop, ↓wE_bl, ↓wE_int, ↓wE_str, ↓wE_glo, ↓wE_tup, ↓wE_lst, ↓wE_dct, ↓wE_bin, ↓wE_neg, ↓wE_cmp, ↓wE_chn, ↓wE_nt, ↓wE_an, ↓wE_orr, ↓wE_ite, ↓wE_ix, ↓wE_sl, ↓wE_rev, ↓wE_cal, ↓wE_b1, ↓wE_b2, ↓wE_isi, ↓wE_m0, ↓wE_m1, ↓wE_mm0, ↓wE_mm1, ↓wE_cmpr, ↓wE_gin, ↓wE_gget, ↓wEs_nil, ↓wEs_cons, ↓wI_ex, ↓wI_rng1, ↓wI_rng2, ↓wI_zip, ↓wI_enum, ↓wS_asg, ↓wS_own, ↓wS_par, ↓wS_setix, ↓wS_expr, ↓wS_ite, ↓wS_whl, ↓wS_fr, ↓wS_ret, ↓wS_retN, ↓wS_retO, ↓wS_pass, ↓wS_brk, ↓wS_cnt, ↓wSs_nil, ↓wSs_cons, ↓q_fx_lockd, ↓q_fx_sdf, ↓q_fx_var, ↓q_fx_non, ↓q_fx_bl, ↓q_fx_int, ↓q_fx_str, ↓q_fx_nop, ↓q_fx_glo, ↓q_fx_tup, ↓q_fx_lst, ↓q_fx_dct, ↓q_fx_bin, ↓q_fx_neg, ↓q_fx_cmp, ↓q_fx_chn, ↓q_fx_nt, ↓q_fx_an, ↓q_fx_orr, ↓q_fx_ite, ↓q_fx_ix, ↓q_fx_sl, ↓q_fx_rev, ↓q_fx_cal, ↓q_fx_b1, ↓q_fx_b2, ↓q_fx_isi, ↓q_fx_m0, ↓q_fx_m1, ↓q_fx_m2, ↓q_fx_mm0, ↓q_fx_mm1, ↓q_fx_cmpr, ↓q_fx_gin, ↓q_fx_gget, ↓q_fx_bor, ↓q_fxs_nil, ↓q_fxs_cons, ↓q_lk_z, ↓q_lk_s, ↓q_wO_s, ↓q_ixO_nop, ↓q_ixO_lockd, ↓q_ixO_sdf, ↓q_ixO_var, ↓q_ixO_non, ↓q_ixO_bl, ↓q_ixO_int, ↓q_ixO_str, ↓q_ixO_glo, ↓q_ixO_tup, ↓q_ixO_lst, ↓q_ixO_dct, ↓q_ixO_bin, ↓q_ixO_neg, ↓q_ixO_cmp, ↓q_ixO_chn, ↓q_ixO_nt, ↓q_ixO_an, ↓q_ixO_orr, ↓q_ixO_ite, ↓q_ixO_ix, ↓q_ixO_sl, ↓q_ixO_rev, ↓q_ixO_cal, ↓q_ixO_b1, ↓q_ixO_b2, ↓q_ixO_isi, ↓q_ixO_m0, ↓q_ixO_m1, ↓q_ixO_m2, ↓q_ixO_mm0, ↓q_ixO_mm1, ↓q_ixO_cmpr, ↓q_ixO_gin, ↓q_ixO_gget, ↓q_asgT_nm, ↓q_asgT_tp, ↓q_asgT_tl, ↓q_it_fz, ↓q_ix_fz, ↓q_ix_dct, ↓q_srt, ↓q_sst, ↓q_sdf, ↓q_dctO, ↓q_setAll_nil, ↓q_setAll_cons, ↓q_wT_non, ↓q_wT_bl, ↓q_wT_int, ↓q_wT_tup, ↓q_wT_lst, ↓q_wT_str, ↓q_wB_bl, ↓q_wInt_int, ↓q_bin_add, ↓q_bin_sub, ↓q_bin_mul, ↓q_bin_mod, ↓q_bin_fdiv, ↓q_bin_pow, ↓q_bin_adds, ↓q_bin_addt, ↓q_bin_addl, ↓q_neg_int, ↓q_cmp_lt, ↓q_cmp_le, ↓q_cmp_gt, ↓q_cmp_ge, ↓q_cmp_eq, ↓q_cmp_ne, ↓q_cmp_in, ↓q_cmp_nin, ↓q_cmp_is, ↓q_cmp_isn, ↓q_eq_int, ↓q_eq_str, ↓q_eq_tupn, ↓q_eq_ntup, ↓q_eq_lstn, ↓q_in_str, ↓q_ix_lst, ↓q_ix_tup, ↓q_ix_scr, ↓q_ix_str, ↓q_sl_tup, ↓q_sl_lst, ↓q_sl_scr, ↓q_sl_str, ↓q_rev_tup, ↓q_rev_lst, ↓q_rev_str, ↓q_len_lst, ↓q_len_tup, ↓q_len_scr, ↓q_len_str, ↓q_abs_int, ↓q_int_int, ↓q_int_bl, ↓q_str_int, ↓q_all_lst, ↓q_any_lst, ↓q_tup_lst, ↓q_tup_tup, ↓q_lst_tup, ↓q_lst_lst, ↓q_rep_any, ↓q_max_two, ↓q_min_two, ↓q_up_str, ↓q_split_str, ↓q_join_str, ↓q_strip_str, ↓q_index_lst, ↓q_app_lst, ↓q_ext_lst, ↓q_pop_lst, ↓q_ty_list, ↓q_ty_str, ↓q_ty_str2, ↓q_ty_str3, ↓q_ty_idx, ↓q_set_lst, ↓q_strO_str, ↓q_it_tup, ↓q_it_lst, ↓q_it_scr, ↓q_it_str, ↓q_zip_st, ↓q_zip_ll, ↓q_zip_tt, ↓q_enum_l, ↓q_enum_t, ↓q_isi_non, ↓q_isi_bl, ↓q_isi_int, ↓q_isi_str, ↓q_isi_tup, ↓q_isi_lst, ↓q_isi_dct, ↓q_at0, ↓q_at1, ↓q_at2, ↓q_at3, ↓q_ixn0, ↓q_ixn1, ↓q_ixn2, ↓q_ixn3, ↓q_ixn4, ↓q_ixn5, ↓q_ixn6, ↓q_ixn7, ↓q_lkn, ↓q_lkn0, ↓q_lk0, ↓q_lkS, ↓q_wipe_nil, ↓q_wipe_cons, ↓q_back_nil, ↓q_back_cons, ↓q_ty_int_int, ↓q_ty_int_str, ↓q_ty_int_bool, ↓q_ty_int_tuple, ↓q_ty_int_list, ↓q_ty_int_dict, ↓q_ty_str_int, ↓q_ty_str_str, ↓q_ty_str_bool, ↓q_ty_str_tuple, ↓q_ty_str_list, ↓q_ty_str_dict, ↓q_ty_bool_int, ↓q_ty_bool_str, ↓q_ty_bool_bool, ↓q_ty_bool_tuple, ↓q_ty_bool_list, ↓q_ty_bool_dict, ↓q_ty_tuple_int, ↓q_ty_tuple_str, ↓q_ty_tuple_bool, ↓q_ty_tuple_tuple, ↓q_ty_tuple_list, ↓q_ty_tuple_dict, ↓q_ty_list_int, ↓q_ty_list_str, ↓q_ty_list_bool, ↓q_ty_list_tuple, ↓q_ty_list_list, ↓q_ty_list_dict, ↓q_ty_dict_int, ↓q_ty_dict_str, ↓q_ty_dict_bool, ↓q_ty_dict_tuple, ↓q_ty_dict_list, ↓q_ty_dict_dict, ↓q_kvs, ↓q_fit0, ↓q_fit1, ↓q_fit2, ↓q_fit3, ↓q_fit4, ↓q_fit5, ↓q_fit6, ↓q_fit7, ↓q_fit8, ↓q_fit9, ↓q_fit10, ↓q_fit11, ↓q_fit12, ↓q_fit13, ↓q_fit14, ↓q_fit15, ↓q_fit16, ↓q_fit17, ↓q_fit18, ↓q_fit19, ↓q_fit20, ↓q_fit21, ↓q_fit22, ↓q_fit23, ↓q_fit24, ↓q_fit25, ↓q_fit26, ↓q_fit27, ↓q_fit28, ↓q_fit29, ↓q_fit30, ↓q_fit31, ↓q_fit32, ↓q_fit33, ↓q_fit34, ↓q_fit35, ↓q_fit36, ↓q_fit37, ↓q_fit38, ↓q_fit39, ↓q_fit40, ↓q_putIo, ↓q_cl_nil, ↓q_cl_bor, ↓q_pio_nil, ↓q_pio_bor, ↓q_cl_lockd, ↓q_pio_lockd, ↓q_cl_sdf, ↓q_pio_sdf, ↓q_cl_var, ↓q_pio_var, ↓q_cl_non, ↓q_pio_non, ↓q_cl_bl, ↓q_pio_bl, ↓q_cl_int, ↓q_pio_int, ↓q_cl_str, ↓q_pio_str, ↓q_cl_nop, ↓q_pio_nop, ↓q_cl_glo, ↓q_pio_glo, ↓q_cl_tup, ↓q_pio_tup, ↓q_cl_lst, ↓q_pio_lst, ↓q_cl_dct, ↓q_pio_dct, ↓q_cl_bin, ↓q_pio_bin, ↓q_cl_neg, ↓q_pio_neg, ↓q_cl_cmp, ↓q_pio_cmp, ↓q_cl_chn, ↓q_pio_chn, ↓q_cl_nt, ↓q_pio_nt, ↓q_cl_an, ↓q_pio_an, ↓q_cl_orr, ↓q_pio_orr, ↓q_cl_ite, ↓q_pio_ite, ↓q_cl_ix, ↓q_pio_ix, ↓q_cl_sl, ↓q_pio_sl, ↓q_cl_rev, ↓q_pio_rev, ↓q_cl_cal, ↓q_pio_cal, ↓q_cl_b1, ↓q_pio_b1, ↓q_cl_b2, ↓q_pio_b2, ↓q_cl_isi, ↓q_pio_isi, ↓q_cl_m0, ↓q_pio_m0, ↓q_cl_m1, ↓q_pio_m1, ↓q_cl_m2, ↓q_pio_m2, ↓q_cl_mm0, ↓q_pio_mm0, ↓q_cl_mm1, ↓q_pio_mm1, ↓q_cl_cmpr, ↓q_pio_cmpr, ↓q_cl_gin, ↓q_pio_gin, ↓q_cl_gget, ↓q_pio_gget, q_fx_lockd, q_fx_sdf, q_fx_var, q_fx_non, q_fx_bl, q_fx_int, q_fx_str, q_fx_nop, q_fx_glo, q_fx_tup, q_fx_lst, q_fx_dct, q_fx_bin, q_fx_neg, q_fx_cmp, q_fx_chn, q_fx_nt, q_fx_an, q_fx_orr, q_fx_ite, q_fx_ix, q_fx_sl, q_fx_rev, q_fx_cal, q_fx_b1, q_fx_b2, q_fx_isi, q_fx_m0, q_fx_m1, q_fx_m2, q_fx_mm0, q_fx_mm1, q_fx_cmpr, q_fx_gin, q_fx_gget, q_fx_bor, q_fxs_nil, q_fxs_cons, q_lk_z, q_lk_s, q_wO_s, q_ixO_nop, q_ixO_lockd, q_ixO_sdf, q_ixO_var, q_ixO_non, q_ixO_bl, q_ixO_int, q_ixO_str, q_ixO_glo, q_ixO_tup, q_ixO_lst, q_ixO_dct, q_ixO_bin, q_ixO_neg, q_ixO_cmp, q_ixO_chn, q_ixO_nt, q_ixO_an, q_ixO_orr, q_ixO_ite, q_ixO_ix, q_ixO_sl, q_ixO_rev, q_ixO_cal, q_ixO_b1, q_ixO_b2, q_ixO_isi, q_ixO_m0, q_ixO_m1, q_ixO_m2, q_ixO_mm0, q_ixO_mm1, q_ixO_cmpr, q_ixO_gin, q_ixO_gget, q_asgT_nm, q_asgT_tp, q_asgT_tl, q_it_fz, q_ix_fz, q_ix_dct, q_srt, q_sst, q_sdf, q_dctO, q_setAll_nil, q_setAll_cons, q_wT_non, q_wT_bl, q_wT_int, q_wT_tup, q_wT_lst, q_wT_str, q_wB_bl, q_wInt_int, q_bin_add, q_bin_sub, q_bin_mul, q_bin_mod, q_bin_fdiv, q_bin_pow, q_bin_adds, q_bin_addt, q_bin_addl, q_neg_int, q_cmp_lt, q_cmp_le, q_cmp_gt, q_cmp_ge, q_cmp_eq, q_cmp_ne, q_cmp_in, q_cmp_nin, q_cmp_is, q_cmp_isn, q_eq_int, q_eq_str, q_eq_tupn, q_eq_ntup, q_eq_lstn, q_in_str, q_ix_lst, q_ix_tup, q_ix_scr, q_ix_str, q_sl_tup, q_sl_lst, q_sl_scr, q_sl_str, q_rev_tup, q_rev_lst, q_rev_str, q_len_lst, q_len_tup, q_len_scr, q_len_str, q_abs_int, q_int_int, q_int_bl, q_str_int, q_all_lst, q_any_lst, q_tup_lst, q_tup_tup, q_lst_tup, q_lst_lst, q_rep_any, q_max_two, q_min_two, q_up_str, q_split_str, q_join_str, q_strip_str, q_index_lst, q_app_lst, q_ext_lst, q_pop_lst, q_ty_list, q_ty_str, q_ty_str2, q_ty_str3, q_ty_idx, q_set_lst, q_strO_str, q_it_tup, q_it_lst, q_it_scr, q_it_str, q_zip_st, q_zip_ll, q_zip_tt, q_enum_l, q_enum_t, q_isi_non, q_isi_bl, q_isi_int, q_isi_str, q_isi_tup, q_isi_lst, q_isi_dct, q_at0, q_at1, q_at2, q_at3, q_ixn0, q_ixn1, q_ixn2, q_ixn3, q_ixn4, q_ixn5, q_ixn6, q_ixn7, q_lkn, q_lkn0, q_lk0, q_lkS, q_wipe_nil, q_wipe_cons, q_back_nil, q_back_cons, q_ty_int_int, q_ty_int_str, q_ty_int_bool, q_ty_int_tuple, q_ty_int_list, q_ty_int_dict, q_ty_str_int, q_ty_str_str, q_ty_str_bool, q_ty_str_tuple, q_ty_str_list, q_ty_str_dict, q_ty_bool_int, q_ty_bool_str, q_ty_bool_bool, q_ty_bool_tuple, q_ty_bool_list, q_ty_bool_dict, q_ty_tuple_int, q_ty_tuple_str, q_ty_tuple_bool, q_ty_tuple_tuple, q_ty_tuple_list, q_ty_tuple_dict, q_ty_list_int, q_ty_list_str, q_ty_list_bool, q_ty_list_tuple, q_ty_list_list, q_ty_list_dict, q_ty_dict_int, q_ty_dict_str, q_ty_dict_bool, q_ty_dict_tuple, q_ty_dict_list, q_ty_dict_dict, q_kvs, q_fit0, q_fit1, q_fit2, q_fit3, q_fit4, q_fit5, q_fit6, q_fit7, q_fit8, q_fit9, q_fit10, q_fit11, q_fit12, q_fit13, q_fit14, q_fit15, q_fit16, q_fit17, q_fit18, q_fit19, q_fit20, q_fit21, q_fit22, q_fit23, q_fit24, q_fit25, q_fit26, q_fit27, q_fit28, q_fit29, q_fit30, q_fit31, q_fit32, q_fit33, q_fit34, q_fit35, q_fit36, q_fit37, q_fit38, q_fit39, q_fit40, q_putIo, q_cl_nil, q_cl_bor, q_pio_nil, q_pio_bor, q_cl_lockd, q_pio_lockd, q_cl_sdf, q_pio_sdf, q_cl_var, q_pio_var, q_cl_non, q_pio_non, q_cl_bl, q_pio_bl, q_cl_int, q_pio_int, q_cl_str, q_pio_str, q_cl_nop, q_pio_nop, q_cl_glo, q_pio_glo, q_cl_tup, q_pio_tup, q_cl_lst, q_pio_lst, q_cl_dct, q_pio_dct, q_cl_bin, q_pio_bin, q_cl_neg, q_pio_neg, q_cl_cmp, q_pio_cmp, q_cl_chn, q_pio_chn, q_cl_nt, q_pio_nt, q_cl_an, q_pio_an, q_cl_orr, q_pio_orr, q_cl_ite, q_pio_ite, q_cl_ix, q_pio_ix, q_cl_sl, q_pio_sl, q_cl_rev, q_pio_rev, q_cl_cal, q_pio_cal, q_cl_b1, q_pio_b1, q_cl_b2, q_pio_b2, q_cl_isi, q_pio_isi, q_cl_m0, q_pio_m0, q_cl_m1, q_pio_m1, q_cl_m2, q_pio_m2, q_cl_mm0, q_pio_mm0, q_cl_mm1, q_pio_mm1, q_cl_cmpr, q_pio_cmpr, q_cl_gin, q_pio_gin, q_cl_gget, q_pio_gget, List.set_cons_zero, List.set_cons_succ, List.length_cons, List.length_nil, List.map_cons, List.map_nil, List.replicate_succ, List.replicate_zero, List.cons_append, List.nil_append, List.take_succ_cons, List.take_zero, true_and, and_true, Bool.not_true, Bool.not_false, if_true, Bool.false_eq_true, if_false, cond_true, cond_false, List.isEmpty_cons, List.isEmpty_nil, Option.isNone_some, Bool.or_true, Bool.true_or, Bool.or_false, Bool.false_or, Bool.and_true, Bool.true_and, Bool.and_false, Bool.false_and, Nat.reduceAdd, Nat.reduceSub, Nat.reduceLT, Nat.reduceLeDiff, Nat.zero_add, Int.reduceLT, Int.reduceLE, reduceCtorEq, decide_eq_true_eq, Nat.lt_add_one, Nat.zero_lt_succ, *])
/-! QO: program_error and the law's own, walked -/
section
variable {G : List D} {fns : List Fn} {wf n f : Nat} {Q : D → PD.Env → Prop} {X : XQ}
def finD (a b : Nat) : D := if 3 < a then .tup [.non, .str "old"] else if 2 < b then .tup [.non, .str "new"] else .non
/-- r is the answer for v -/
def ProgR (v r : D) : Prop := match v with
  | .tup xs => if 12 < xs.length then r = .tup [.non, .str "program"] else match badFrom 0 xs with
    | some b => r = b
    | none => ∃ ys : List (Option Str × List Str), xs.length = ys.length ∧ (∀ (i : Nat) (x : D) (y : Option Str × List Str), xs[i]? = some x → ys[i]? = some y → DeedN x y) ∧
        r = finD (fls (ys.foldl (fun C x => stepP C x.1 x.2) [])).length (trs (ys.foldl (fun C x => stepP C x.1 x.2) [])).length
  | _ => r = .tup [.non, .str "program"]
theorem bad_all : ∀ {xs : List D} {k : Nat}, badFrom k xs = none → ∀ x ∈ xs, deedErr x = .non
  | [], _, _, x, hx => by cases hx
  | z :: xs, k, h, x, hx => by
    unfold badFrom at h
    split at h
    · rename_i hz
      rcases List.mem_cons.mp hx with e | e
      · subst e
        cases q : deedErr x <;> rw [q] at hz <;> first | rfl | cases hz
      · exact bad_all h x e
    · cases h
theorem prog_ex (v : D) : ∃ r, ProgR v r := by
  unfold ProgR
  split
  · rename_i xs
    split
    · exact ⟨_, rfl⟩
    · split
      · exact ⟨_, rfl⟩
      · rename_i hb
        obtain ⟨ys, h1, h2⟩ := deeds_of (bad_all hb)
        exact ⟨_, ys, h1, h2, rfl⟩
  · exact ⟨_, rfl⟩
def progFn (gD gN gO jE jN : Nat) : Fn := ⟨1, 6, [false, false, false, false, false, false], false,
      (.cons (.ite (.orr (.nt (.isi (.var 0) .tuple)) (.cmp .gt (.b1 .len (.var 0)) (.glo gD)))
      (.cons (.ret (.tup (.cons .non (.cons (.str "program") .nil))))
      .nil)
      .nil)
      (.cons (.fr (.tp [1, 2]) (.enum (.var 0))
      (.cons (.asg (.nm 5) (.cal jE (.cons (.var 2) .nil)))
      (.cons (.ite (.cmp .isn (.var 5) .non)
      (.cons (.ret (.tup (.cons (.var 1) (.cons (.var 5) .nil))))
      .nil)
      .nil)
      .nil)))
      (.cons (.asg (.tp [3, 4]) (.cal jN (.cons (.var 0) .nil)))
      (.cons (.ite (.cmp .gt (.b1 .len (.var 3)) (.glo gO))
      (.cons (.ret (.tup (.cons .non (.cons (.str "old") .nil))))
      .nil)
      .nil)
      (.cons (.ret (.ite (.cmp .gt (.b1 .len (.var 4)) (.glo gN)) (.tup (.cons .non (.cons (.str "new") .nil))) .non))
      .nil)))))⟩
theorem prog_w {gD gN gO jE jN jM gP W m : Nat} {v r : D} (hF : fns[f]? = some (progFn gD gN gO jE jN)) (hE : ∀ (d : D) (Q : D → PD.Env → Prop) (X : XQ), VisT d → (∀ io, Q (deedErr d) io) → wC (callF G fns wf (n - 1) jE [d]) Q X)
    (hN : fns[jN]? = some (namesFn jM)) (hM : fns[jM]? = some (namedFn gP)) (hg : G[gP]? = some (.dct false tabD)) (h12 : G[gD]? = some (.int 12)) (h2 : G[gN]? = some (.int 2)) (h3 : G[gO]? = some (.int 3)) (hn : 3 ≤ n)
    (hv : Gd W m v) (hW : W ≤ 1000000) (hr : ProgR v r) (k : ∀ io, Q r io) : wC (callF G fns wf n f [v]) Q X := by
  refine wC_callF hF (by omega) rfl ?_
  unfold progFn
  have hp := hv.p
  cases v with
  | tup xs =>
    unfold ProgR at hr
    simp only at hr
    walk_at "ev"
    by_cases hl : 12 < xs.length
    · rw [if_pos hl] at hr
      subst hr
      have hl2 : (12 : Int) < (xs.length : Int) := by omega
      rw [if_pos hl2]
      exact k _
    · rw [if_neg hl] at hr
      have hl2 : ¬ ((12 : Int) < (xs.length : Int)) := by omega
      rw [if_neg hl2]
      refine wF_inv (fun i ρ => ∃ a b c, ρ = [some (.tup xs), a, b, none, none, c] ∧ ∀ (j : Nat) (y : D), j < i → xs[j]? = some y → isNonD (deedErr y) = true) ⟨_, _, _, rfl, fun j y h => by omega⟩ ?_ ?_
      · rintro i d ρ hd ⟨a, b, c, rfl, hj⟩
        rw [List.getElem?_map, List.getElem?_zipIdx] at hd
        cases hx : xs[i]? with
        | none => rw [hx] at hd; cases hd
        | some x =>
          rw [hx] at hd
          simp at hd
          subst hd
          have hm := List.mem_of_getElem? hx
          have vx : VisT x := by
            cases m with
            | zero => simp [pln] at hp
            | succ m =>
              refine Gd.visT (W := W) (n := m) ⟨?_, plnL_mem (by simpa [pln] using hp) hm, ascL_mem hv.a hm⟩ hW
              have := hv.w
              rw [wt] at this
              have := wtL_mem hm
              omega
          walk_at "ev"
          refine hE x _ _ vx fun io => ?_
          by_cases h0 : isNonD (deedErr x) = true
          · walk_at "ev"
            refine ⟨_, _, _, rfl, fun j y hlt hy => ?_⟩
            by_cases e : j = i
            · subst e
              rw [hx] at hy
              cases hy
              exact h0
            · exact hj j y (by omega) hy
          · have h0 : isNonD (deedErr x) = false := by simpa using h0
            have hb := bad_at (k := 0) hx hj h0
            rw [hb, Nat.zero_add] at hr
            simp only at hr
            subst hr
            walk_at "ev"
      · rintro ρ ⟨a, b, c, rfl, hj⟩
        have hb : badFrom 0 xs = none := bad_none fun j y hy => hj j y (by
          rw [List.length_map, List.length_zipIdx]
          exact (List.getElem?_eq_some_iff.mp hy).1) hy
        rw [hb] at hr
        simp only at hr
        obtain ⟨ys, e1, e2, rfl⟩ := hr
        have hq : ∃ m', plnL m' xs = true := by
          cases m with
          | zero => simp [pln] at hp
          | succ m => exact ⟨m, by simpa [pln] using hp⟩
        obtain ⟨m', hq⟩ := hq
        have p1 := (srtS_perm (fls (ys.foldl (fun C x => stepP C x.1 x.2) []))).length_eq
        have p2 := (srtS_perm (trs (ys.foldl (fun C x => stepP C x.1 x.2) []))).length_eq
        walk_at "ev"
        refine names_w hN hM hg (by omega) e1 e2 (by omega) hq (noFzL_pln _ _ hq) fun io => ?_
        unfold finD at k
        walk_at "ev"
        have kk := k [some (.tup xs)]
        simp only [List.length_map, p1, p2]
        by_cases q1 : 3 < (fls (ys.foldl (fun C x => stepP C x.1 x.2) [])).length
        · rw [if_pos q1] at kk
          rw [if_pos (by omega)]
          exact kk
        · rw [if_neg q1] at kk
          rw [if_neg (by omega)]
          by_cases q2 : 2 < (trs (ys.foldl (fun C x => stepP C x.1 x.2) [])).length
          · rw [if_pos q2] at kk
            rw [if_pos (by omega)]
            exact kk
          · rw [if_neg q2] at kk
            rw [if_neg (by omega)]
            exact kk
  | fz _ => cases m <;> simp [pln] at hp
  | scr _ => cases m <;> simp [pln] at hp
  | obj _ _ => cases m <;> simp [pln] at hp
  | _ =>
    have hr : r = .tup [.non, .str "program"] := hr
    subst hr
    walk_at "ev"
    all_goals exact k _
def lProgFn (jE jN : Nat) : Fn := ⟨1, 5, [false, false, false, false, false], false,
      (.cons (.ite (.orr (.nt (.isi (.var 0) .tuple)) (.cmp .gt (.b1 .len (.var 0)) (.int 12)))
      (.cons (.ret (.tup (.cons .non (.cons (.str "program") .nil))))
      .nil)
      .nil)
      (.cons (.fr (.tp [1, 2]) (.enum (.var 0))
      (.cons (.ite (.cmp .isn (.cal jE (.cons (.var 2) .nil)) .non)
      (.cons (.ret (.tup (.cons (.var 1) (.cons (.cal jE (.cons (.var 2) .nil)) .nil))))
      .nil)
      .nil)
      .nil))
      (.cons (.asg (.tp [3, 4]) (.cal jN (.cons (.var 0) .nil)))
      (.cons (.ite (.cmp .gt (.b1 .len (.var 3)) (.int 3))
      (.cons (.ret (.tup (.cons .non (.cons (.str "old") .nil))))
      .nil)
      .nil)
      (.cons (.ret (.ite (.cmp .gt (.b1 .len (.var 4)) (.int 2)) (.tup (.cons .non (.cons (.str "new") .nil))) .non))
      .nil)))))⟩
theorem lProg_w {jE jN jM jR W m : Nat} {v r : D} (hF : fns[f]? = some (lProgFn jE jN)) (hE : ∀ (d : D) (Q : D → PD.Env → Prop) (X : XQ), VisT d → (∀ io, Q (deedErr d) io) → wC (callF G fns wf (n - 1) jE [d]) Q X)
    (hN : fns[jN]? = some (lNamesFn jM)) (hM : fns[jM]? = some (lOldFn jR)) (hR : fns[jR]? = some partsFn) (hn : 4 ≤ n)
    (hv : Gd W m v) (hW : W ≤ 1000000) (hr : ProgR v r) (k : ∀ io, Q r io) : wC (callF G fns wf n f [v]) Q X := by
  refine wC_callF hF (by omega) rfl ?_
  unfold lProgFn
  have hp := hv.p
  cases v with
  | tup xs =>
    unfold ProgR at hr
    simp only at hr
    walk_at "ev"
    by_cases hl : 12 < xs.length
    · rw [if_pos hl] at hr
      subst hr
      have hl2 : (12 : Int) < (xs.length : Int) := by omega
      rw [if_pos hl2]
      exact k _
    · rw [if_neg hl] at hr
      have hl2 : ¬ ((12 : Int) < (xs.length : Int)) := by omega
      rw [if_neg hl2]
      refine wF_inv (fun i ρ => ∃ a b, ρ = [some (.tup xs), a, b, none, none] ∧ ∀ (j : Nat) (y : D), j < i → xs[j]? = some y → isNonD (deedErr y) = true) ⟨_, _, rfl, fun j y h => by omega⟩ ?_ ?_
      · rintro i d ρ hd ⟨a, b, rfl, hj⟩
        rw [List.getElem?_map, List.getElem?_zipIdx] at hd
        cases hx : xs[i]? with
        | none => rw [hx] at hd; cases hd
        | some x =>
          rw [hx] at hd
          simp at hd
          subst hd
          have hm := List.mem_of_getElem? hx
          have vx : VisT x := by
            cases m with
            | zero => simp [pln] at hp
            | succ m =>
              refine Gd.visT (W := W) (n := m) ⟨?_, plnL_mem (by simpa [pln] using hp) hm, ascL_mem hv.a hm⟩ hW
              have := hv.w
              rw [wt] at this
              have := wtL_mem hm
              omega
          walk_at "ev"
          refine hE x _ _ vx fun io => ?_
          by_cases h0 : isNonD (deedErr x) = true
          · walk_at "ev"
            refine ⟨_, _, rfl, fun j y hlt hy => ?_⟩
            by_cases e : j = i
            · subst e
              rw [hx] at hy
              cases hy
              exact h0
            · exact hj j y (by omega) hy
          · have h0 : isNonD (deedErr x) = false := by simpa using h0
            have hb := bad_at (k := 0) hx hj h0
            rw [hb, Nat.zero_add] at hr
            simp only at hr
            subst hr
            walk_at "ev"
            refine hE x _ _ vx fun io => ?_
            walk_at "ev"
      · rintro ρ ⟨a, b, rfl, hj⟩
        have hb : badFrom 0 xs = none := bad_none fun j y hy => hj j y (by
          rw [List.length_map, List.length_zipIdx]
          exact (List.getElem?_eq_some_iff.mp hy).1) hy
        rw [hb] at hr
        simp only at hr
        obtain ⟨ys, e1, e2, rfl⟩ := hr
        have hq : ∃ m', plnL m' xs = true := by
          cases m with
          | zero => simp [pln] at hp
          | succ m => exact ⟨m, by simpa [pln] using hp⟩
        obtain ⟨m', hq⟩ := hq
        have fs := fold_same ys [] ([], []) rfl rfl
        rw [fs.1, fs.2] at k
        have p1 := (srtS_perm (dedS (ys.foldl (fun s x => stepL s x.1 x.2) ([], [])).1)).length_eq
        have p2 := (srtS_perm (ys.foldl (fun s x => stepL s x.1 x.2) ([], [])).2).length_eq
        walk_at "ev"
        refine lNames_w hN hM hR (by omega) e1 e2 (by omega) fun io => ?_
        unfold finD at k
        walk_at "ev"
        have kk := k [some (.tup xs)]
        simp only [List.length_map, p1, p2]
        by_cases q1 : 3 < (dedS (ys.foldl (fun s x => stepL s x.1 x.2) ([], [])).1).length
        · rw [if_pos q1] at kk
          rw [if_pos (by omega)]
          exact kk
        · rw [if_neg q1] at kk
          rw [if_neg (by omega)]
          by_cases q2 : 2 < (ys.foldl (fun s x => stepL s x.1 x.2) ([], [])).2.length
          · rw [if_pos q2] at kk
            rw [if_pos (by omega)]
            exact kk
          · rw [if_neg q2] at kk
            rw [if_neg (by omega)]
            exact kk
  | fz _ => cases m <;> simp [pln] at hp
  | scr _ => cases m <;> simp [pln] at hp
  | obj _ _ => cases m <;> simp [pln] at hp
  | _ =>
    have hr : r = .tup [.non, .str "program"] := hr
    subst hr
    walk_at "ev"
    all_goals exact k _
end
end PD
end

section
set_option Elab.async false
set_option linter.all false
set_option maxRecDepth 100000
set_option maxHeartbeats 1000000
namespace PD
open PySem PySem.Spec PyProof.Rows L2
local macro_rules | `(tactic| walk_at "ev") => `(tactic| simp only [↓wE_lockd, ↓wE_sdf, ↓wE_var, ↓wE_bor, ↓wE_non, ↓wE_nop, ↓wE_bl, ↓wE_int, ↓wE_str, ↓wE_glo, ↓wE_tup, ↓wE_lst, ↓wE_dct, ↓wE_bin, ↓wE_neg, ↓wE_cmp, ↓wE_chn, ↓wE_nt, ↓wE_an, ↓wE_orr, ↓wE_ite, ↓wE_ix, ↓wE_sl, ↓wE_rev, ↓wE_cal, ↓wE_b1, ↓wE_b2, ↓wE_isi, ↓wE_m0, ↓wE_m1, ↓wE_mm0, ↓wE_mm1, ↓wE_cmpr, ↓wE_gin, ↓wE_gget, ↓wEs_nil, ↓wEs_cons, ↓wI_ex, ↓wI_rng1, ↓wI_rng2, ↓wI_zip, ↓wI_enum, ↓wS_asg, ↓wS_own, ↓wS_par, ↓wS_setix, ↓wS_expr, ↓wS_ite, ↓wS_whl, ↓wS_fr, ↓wS_ret, ↓wS_retN, ↓wS_retO, ↓wS_pass, ↓wS_brk, ↓wS_cnt, ↓wSs_nil, ↓wSs_cons, ↓q_fx_lockd, ↓q_fx_sdf, ↓q_fx_var, ↓q_fx_non, ↓q_fx_bl, ↓q_fx_int, ↓q_fx_str, ↓q_fx_nop, ↓q_fx_glo, ↓q_fx_tup, ↓q_fx_lst, ↓q_fx_dct, ↓q_fx_bin, ↓q_fx_neg, ↓q_fx_cmp, ↓q_fx_chn, ↓q_fx_nt, ↓q_fx_an, ↓q_fx_orr, ↓q_fx_ite, ↓q_fx_ix, ↓q_fx_sl, ↓q_fx_rev, ↓q_fx_cal, ↓q_fx_b1, ↓q_fx_b2, ↓q_fx_isi, ↓q_fx_m0, ↓q_fx_m1, ↓q_fx_m2, ↓q_fx_mm0, ↓q_fx_mm1, ↓q_fx_cmpr, ↓q_fx_gin, ↓q_fx_gget, ↓q_fx_bor, ↓q_fxs_nil, ↓q_fxs_cons, ↓q_lk_z, ↓q_lk_s, ↓q_wO_s, ↓q_ixO_nop, ↓q_ixO_lockd, ↓q_ixO_sdf, ↓q_ixO_var, ↓q_ixO_non, ↓q_ixO_bl, ↓q_ixO_int, ↓q_ixO_str, ↓q_ixO_glo, ↓q_ixO_tup, ↓q_ixO_lst, ↓q_ixO_dct, ↓q_ixO_bin, ↓q_ixO_neg, ↓q_ixO_cmp, ↓q_ixO_chn, ↓q_ixO_nt, ↓q_ixO_an, ↓q_ixO_orr, ↓q_ixO_ite, ↓q_ixO_ix, ↓q_ixO_sl, ↓q_ixO_rev, ↓q_ixO_cal, ↓q_ixO_b1, ↓q_ixO_b2, ↓q_ixO_isi, ↓q_ixO_m0, ↓q_ixO_m1, ↓q_ixO_m2, ↓q_ixO_mm0, ↓q_ixO_mm1, ↓q_ixO_cmpr, ↓q_ixO_gin, ↓q_ixO_gget, ↓q_asgT_nm, ↓q_asgT_tp, ↓q_asgT_tl, ↓q_it_fz, ↓q_ix_fz, ↓q_ix_dct, ↓q_srt, ↓q_sst, ↓q_sdf, ↓q_dctO, ↓q_setAll_nil, ↓q_setAll_cons, ↓q_wT_non, ↓q_wT_bl, ↓q_wT_int, ↓q_wT_tup, ↓q_wT_lst, ↓q_wT_str, ↓q_wB_bl, ↓q_wInt_int, ↓q_bin_add, ↓q_bin_sub, ↓q_bin_mul, ↓q_bin_mod, ↓q_bin_fdiv, ↓q_bin_pow, ↓q_bin_adds, ↓q_bin_addt, ↓q_bin_addl, ↓q_neg_int, ↓q_cmp_lt, ↓q_cmp_le, ↓q_cmp_gt, ↓q_cmp_ge, ↓q_cmp_eq, ↓q_cmp_ne, ↓q_cmp_in, ↓q_cmp_nin, ↓q_cmp_is, ↓q_cmp_isn, ↓q_eq_int, ↓q_eq_str, ↓q_eq_tupn, ↓q_eq_ntup, ↓q_eq_lstn, ↓q_in_str, ↓q_ix_lst, ↓q_ix_tup, ↓q_ix_scr, ↓q_ix_str, ↓q_sl_tup, ↓q_sl_lst, ↓q_sl_scr, ↓q_sl_str, ↓q_rev_tup, ↓q_rev_lst, ↓q_rev_str, ↓q_len_lst, ↓q_len_tup, ↓q_len_scr, ↓q_len_str, ↓q_abs_int, ↓q_int_int, ↓q_int_bl, ↓q_str_int, ↓q_all_lst, ↓q_any_lst, ↓q_tup_lst, ↓q_tup_tup, ↓q_lst_tup, ↓q_lst_lst, ↓q_rep_any, ↓q_max_two, ↓q_min_two, ↓q_up_str, ↓q_split_str, ↓q_join_str, ↓q_strip_str, ↓q_index_lst, ↓q_app_lst, ↓q_ext_lst, ↓q_pop_lst, ↓q_ty_list, ↓q_ty_str, ↓q_ty_str2, ↓q_ty_str3, ↓q_ty_idx, ↓q_set_lst, ↓q_strO_str, ↓q_it_tup, ↓q_it_lst, ↓q_it_scr, ↓q_it_str, ↓q_zip_st, ↓q_zip_ll, ↓q_zip_tt, ↓q_enum_l, ↓q_enum_t, ↓q_isi_non, ↓q_isi_bl, ↓q_isi_int, ↓q_isi_str, ↓q_isi_tup, ↓q_isi_lst, ↓q_isi_dct, ↓q_at0, ↓q_at1, ↓q_at2, ↓q_at3, ↓q_ixn0, ↓q_ixn1, ↓q_ixn2, ↓q_ixn3, ↓q_ixn4, ↓q_ixn5, ↓q_ixn6, ↓q_ixn7, ↓q_lkn, ↓q_lkn0, ↓q_lk0, ↓q_lkS, ↓q_wipe_nil, ↓q_wipe_cons, ↓q_back_nil, ↓q_back_cons, ↓q_ty_int_int, ↓q_ty_int_str, ↓q_ty_int_bool, ↓q_ty_int_tuple, ↓q_ty_int_list, ↓q_ty_int_dict, ↓q_ty_str_int, ↓q_ty_str_str, ↓q_ty_str_bool, ↓q_ty_str_tuple, ↓q_ty_str_list, ↓q_ty_str_dict, ↓q_ty_bool_int, ↓q_ty_bool_str, ↓q_ty_bool_bool, ↓q_ty_bool_tuple, ↓q_ty_bool_list, ↓q_ty_bool_dict, ↓q_ty_tuple_int, ↓q_ty_tuple_str, ↓q_ty_tuple_bool, ↓q_ty_tuple_tuple, ↓q_ty_tuple_list, ↓q_ty_tuple_dict, ↓q_ty_list_int, ↓q_ty_list_str, ↓q_ty_list_bool, ↓q_ty_list_tuple, ↓q_ty_list_list, ↓q_ty_list_dict, ↓q_ty_dict_int, ↓q_ty_dict_str, ↓q_ty_dict_bool, ↓q_ty_dict_tuple, ↓q_ty_dict_list, ↓q_ty_dict_dict, ↓q_kvs, ↓q_fit0, ↓q_fit1, ↓q_fit2, ↓q_fit3, ↓q_fit4, ↓q_fit5, ↓q_fit6, ↓q_fit7, ↓q_fit8, ↓q_fit9, ↓q_fit10, ↓q_fit11, ↓q_fit12, ↓q_fit13, ↓q_fit14, ↓q_fit15, ↓q_fit16, ↓q_fit17, ↓q_fit18, ↓q_fit19, ↓q_fit20, ↓q_fit21, ↓q_fit22, ↓q_fit23, ↓q_fit24, ↓q_fit25, ↓q_fit26, ↓q_fit27, ↓q_fit28, ↓q_fit29, ↓q_fit30, ↓q_fit31, ↓q_fit32, ↓q_fit33, ↓q_fit34, ↓q_fit35, ↓q_fit36, ↓q_fit37, ↓q_fit38, ↓q_fit39, ↓q_fit40, ↓q_putIo, ↓q_cl_nil, ↓q_cl_bor, ↓q_pio_nil, ↓q_pio_bor, ↓q_cl_lockd, ↓q_pio_lockd, ↓q_cl_sdf, ↓q_pio_sdf, ↓q_cl_var, ↓q_pio_var, ↓q_cl_non, ↓q_pio_non, ↓q_cl_bl, ↓q_pio_bl, ↓q_cl_int, ↓q_pio_int, ↓q_cl_str, ↓q_pio_str, ↓q_cl_nop, ↓q_pio_nop, ↓q_cl_glo, ↓q_pio_glo, ↓q_cl_tup, ↓q_pio_tup, ↓q_cl_lst, ↓q_pio_lst, ↓q_cl_dct, ↓q_pio_dct, ↓q_cl_bin, ↓q_pio_bin, ↓q_cl_neg, ↓q_pio_neg, ↓q_cl_cmp, ↓q_pio_cmp, ↓q_cl_chn, ↓q_pio_chn, ↓q_cl_nt, ↓q_pio_nt, ↓q_cl_an, ↓q_pio_an, ↓q_cl_orr, ↓q_pio_orr, ↓q_cl_ite, ↓q_pio_ite, ↓q_cl_ix, ↓q_pio_ix, ↓q_cl_sl, ↓q_pio_sl, ↓q_cl_rev, ↓q_pio_rev, ↓q_cl_cal, ↓q_pio_cal, ↓q_cl_b1, ↓q_pio_b1, ↓q_cl_b2, ↓q_pio_b2, ↓q_cl_isi, ↓q_pio_isi, ↓q_cl_m0, ↓q_pio_m0, ↓q_cl_m1, ↓q_pio_m1, ↓q_cl_m2, ↓q_pio_m2, ↓q_cl_mm0, ↓q_pio_mm0, ↓q_cl_mm1, ↓q_pio_mm1, ↓q_cl_cmpr, ↓q_pio_cmpr, ↓q_cl_gin, ↓q_pio_gin, ↓q_cl_gget, ↓q_pio_gget, q_fx_lockd, q_fx_sdf, q_fx_var, q_fx_non, q_fx_bl, q_fx_int, q_fx_str, q_fx_nop, q_fx_glo, q_fx_tup, q_fx_lst, q_fx_dct, q_fx_bin, q_fx_neg, q_fx_cmp, q_fx_chn, q_fx_nt, q_fx_an, q_fx_orr, q_fx_ite, q_fx_ix, q_fx_sl, q_fx_rev, q_fx_cal, q_fx_b1, q_fx_b2, q_fx_isi, q_fx_m0, q_fx_m1, q_fx_m2, q_fx_mm0, q_fx_mm1, q_fx_cmpr, q_fx_gin, q_fx_gget, q_fx_bor, q_fxs_nil, q_fxs_cons, q_lk_z, q_lk_s, q_wO_s, q_ixO_nop, q_ixO_lockd, q_ixO_sdf, q_ixO_var, q_ixO_non, q_ixO_bl, q_ixO_int, q_ixO_str, q_ixO_glo, q_ixO_tup, q_ixO_lst, q_ixO_dct, q_ixO_bin, q_ixO_neg, q_ixO_cmp, q_ixO_chn, q_ixO_nt, q_ixO_an, q_ixO_orr, q_ixO_ite, q_ixO_ix, q_ixO_sl, q_ixO_rev, q_ixO_cal, q_ixO_b1, q_ixO_b2, q_ixO_isi, q_ixO_m0, q_ixO_m1, q_ixO_m2, q_ixO_mm0, q_ixO_mm1, q_ixO_cmpr, q_ixO_gin, q_ixO_gget, q_asgT_nm, q_asgT_tp, q_asgT_tl, q_it_fz, q_ix_fz, q_ix_dct, q_srt, q_sst, q_sdf, q_dctO, q_setAll_nil, q_setAll_cons, q_wT_non, q_wT_bl, q_wT_int, q_wT_tup, q_wT_lst, q_wT_str, q_wB_bl, q_wInt_int, q_bin_add, q_bin_sub, q_bin_mul, q_bin_mod, q_bin_fdiv, q_bin_pow, q_bin_adds, q_bin_addt, q_bin_addl, q_neg_int, q_cmp_lt, q_cmp_le, q_cmp_gt, q_cmp_ge, q_cmp_eq, q_cmp_ne, q_cmp_in, q_cmp_nin, q_cmp_is, q_cmp_isn, q_eq_int, q_eq_str, q_eq_tupn, q_eq_ntup, q_eq_lstn, q_in_str, q_ix_lst, q_ix_tup, q_ix_scr, q_ix_str, q_sl_tup, q_sl_lst, q_sl_scr, q_sl_str, q_rev_tup, q_rev_lst, q_rev_str, q_len_lst, q_len_tup, q_len_scr, q_len_str, q_abs_int, q_int_int, q_int_bl, q_str_int, q_all_lst, q_any_lst, q_tup_lst, q_tup_tup, q_lst_tup, q_lst_lst, q_rep_any, q_max_two, q_min_two, q_up_str, q_split_str, q_join_str, q_strip_str, q_index_lst, q_app_lst, q_ext_lst, q_pop_lst, q_ty_list, q_ty_str, q_ty_str2, q_ty_str3, q_ty_idx, q_set_lst, q_strO_str, q_it_tup, q_it_lst, q_it_scr, q_it_str, q_zip_st, q_zip_ll, q_zip_tt, q_enum_l, q_enum_t, q_isi_non, q_isi_bl, q_isi_int, q_isi_str, q_isi_tup, q_isi_lst, q_isi_dct, q_at0, q_at1, q_at2, q_at3, q_ixn0, q_ixn1, q_ixn2, q_ixn3, q_ixn4, q_ixn5, q_ixn6, q_ixn7, q_lkn, q_lkn0, q_lk0, q_lkS, q_wipe_nil, q_wipe_cons, q_back_nil, q_back_cons, q_ty_int_int, q_ty_int_str, q_ty_int_bool, q_ty_int_tuple, q_ty_int_list, q_ty_int_dict, q_ty_str_int, q_ty_str_str, q_ty_str_bool, q_ty_str_tuple, q_ty_str_list, q_ty_str_dict, q_ty_bool_int, q_ty_bool_str, q_ty_bool_bool, q_ty_bool_tuple, q_ty_bool_list, q_ty_bool_dict, q_ty_tuple_int, q_ty_tuple_str, q_ty_tuple_bool, q_ty_tuple_tuple, q_ty_tuple_list, q_ty_tuple_dict, q_ty_list_int, q_ty_list_str, q_ty_list_bool, q_ty_list_tuple, q_ty_list_list, q_ty_list_dict, q_ty_dict_int, q_ty_dict_str, q_ty_dict_bool, q_ty_dict_tuple, q_ty_dict_list, q_ty_dict_dict, q_kvs, q_fit0, q_fit1, q_fit2, q_fit3, q_fit4, q_fit5, q_fit6, q_fit7, q_fit8, q_fit9, q_fit10, q_fit11, q_fit12, q_fit13, q_fit14, q_fit15, q_fit16, q_fit17, q_fit18, q_fit19, q_fit20, q_fit21, q_fit22, q_fit23, q_fit24, q_fit25, q_fit26, q_fit27, q_fit28, q_fit29, q_fit30, q_fit31, q_fit32, q_fit33, q_fit34, q_fit35, q_fit36, q_fit37, q_fit38, q_fit39, q_fit40, q_putIo, q_cl_nil, q_cl_bor, q_pio_nil, q_pio_bor, q_cl_lockd, q_pio_lockd, q_cl_sdf, q_pio_sdf, q_cl_var, q_pio_var, q_cl_non, q_pio_non, q_cl_bl, q_pio_bl, q_cl_int, q_pio_int, q_cl_str, q_pio_str, q_cl_nop, q_pio_nop, q_cl_glo, q_pio_glo, q_cl_tup, q_pio_tup, q_cl_lst, q_pio_lst, q_cl_dct, q_pio_dct, q_cl_bin, q_pio_bin, q_cl_neg, q_pio_neg, q_cl_cmp, q_pio_cmp, q_cl_chn, q_pio_chn, q_cl_nt, q_pio_nt, q_cl_an, q_pio_an, q_cl_orr, q_pio_orr, q_cl_ite, q_pio_ite, q_cl_ix, q_pio_ix, q_cl_sl, q_pio_sl, q_cl_rev, q_pio_rev, q_cl_cal, q_pio_cal, q_cl_b1, q_pio_b1, q_cl_b2, q_pio_b2, q_cl_isi, q_pio_isi, q_cl_m0, q_pio_m0, q_cl_m1, q_pio_m1, q_cl_m2, q_pio_m2, q_cl_mm0, q_pio_mm0, q_cl_mm1, q_pio_mm1, q_cl_cmpr, q_pio_cmpr, q_cl_gin, q_pio_gin, q_cl_gget, q_pio_gget, List.set_cons_zero, List.set_cons_succ, List.length_cons, List.length_nil, List.map_cons, List.map_nil, List.replicate_succ, List.replicate_zero, List.cons_append, List.nil_append, List.take_succ_cons, List.take_zero, true_and, and_true, Bool.not_true, Bool.not_false, if_true, Bool.false_eq_true, if_false, cond_true, cond_false, List.isEmpty_cons, List.isEmpty_nil, Option.isNone_some, Bool.or_true, Bool.true_or, Bool.or_false, Bool.false_or, Bool.and_true, Bool.true_and, Bool.and_false, Bool.false_and, Nat.reduceAdd, Nat.reduceSub, Nat.reduceLT, Nat.reduceLeDiff, Nat.zero_add, Int.reduceLT, Int.reduceLE, reduceCtorEq, decide_eq_true_eq, Nat.lt_add_one, Nat.zero_lt_succ, *])
/-! QU: a bound of their own for the ints within -/
mutual
def ib (B : Nat) : D → Bool
  | .non => true
  | .bl _ => true
  | .int i => decide (i.natAbs.log2 + 3 ≤ B)
  | .str _ => true
  | .tup xs => ibL B xs
  | .lst xs => ibL B xs
  | .dct _ kvs => ibK B kvs
  | .fz _ => true
  | .scr _ => true
  | .obj _ _ => true
def ibL (B : Nat) : List D → Bool
  | [] => true
  | x :: xs => ib B x && ibL B xs
def ibK (B : Nat) : List (D × D) → Bool
  | [] => true
  | (_, v) :: r => ib B v && ibK B r
end
theorem ibL_mem {B : Nat} : ∀ {xs : List D}, ibL B xs = true → ∀ x ∈ xs, ib B x = true
  | [], _, x, h => by cases h
  | y :: xs, h, x, hx => by
    have h : (ib B y && ibL B xs) = true := h
    rw [Bool.and_eq_true] at h
    rcases List.mem_cons.mp hx with e | e
    · rw [e]; exact h.1
    · exact ibL_mem h.2 x e
theorem ibL_all {B : Nat} : ∀ {xs : List D}, (∀ x ∈ xs, ib B x = true) → ibL B xs = true
  | [], _ => rfl
  | y :: xs, h => by
    show (ib B y && ibL B xs) = true
    rw [h y (List.mem_cons_self ..), ibL_all fun x hx => h x (List.mem_cons_of_mem _ hx)]; rfl
mutual
theorem ib_wt : ∀ (d : D) (B : Nat), wt d ≤ B → ib B d = true
  | .non, _, _ => rfl
  | .bl _, _, _ => rfl
  | .int i, B, h => by
    simp only [wt] at h
    exact decide_eq_true h
  | .str _, _, _ => rfl
  | .tup xs, B, h => by
    simp only [wt] at h
    exact ibL_wt xs B (by omega)
  | .lst xs, B, h => by
    simp only [wt] at h
    exact ibL_wt xs B (by omega)
  | .dct _ kvs, B, h => by
    simp only [wt] at h
    exact ibK_wt kvs B (by omega)
  | .fz _, _, _ => rfl
  | .scr _, _, _ => rfl
  | .obj _ _, _, _ => rfl
theorem ibL_wt : ∀ (xs : List D) (B : Nat), wtL xs ≤ B → ibL B xs = true
  | [], _, _ => rfl
  | x :: xs, B, h => by
    simp only [wtL] at h
    show (ib B x && ibL B xs) = true
    rw [ib_wt x B (by omega), ibL_wt xs B (by omega)]; rfl
theorem ibK_wt : ∀ (kvs : List (D × D)) (B : Nat), wtK kvs ≤ B → ibK B kvs = true
  | [], _, _ => rfl
  | (k, v) :: r, B, h => by
    simp only [wtK] at h
    show (ib B v && ibK B r) = true
    rw [ib_wt v B (by omega), ibK_wt r B (by omega)]; rfl
end
mutual
theorem ib_mono {B C : Nat} (hBC : B ≤ C) : ∀ (d : D), ib B d = true → ib C d = true
  | .non, _ => rfl
  | .bl _, _ => rfl
  | .int i, h => by
    have := of_decide_eq_true h
    exact decide_eq_true (by omega)
  | .str _, _ => rfl
  | .tup xs, h => ibL_mono hBC xs h
  | .lst xs, h => ibL_mono hBC xs h
  | .dct _ kvs, h => ibK_mono hBC kvs h
  | .fz _, _ => rfl
  | .scr _, _ => rfl
  | .obj _ _, _ => rfl
theorem ibL_mono {B C : Nat} (hBC : B ≤ C) : ∀ (ds : List D), ibL B ds = true → ibL C ds = true
  | [], _ => rfl
  | x :: xs, h => by
    have h : (ib B x && ibL B xs) = true := h
    rw [Bool.and_eq_true] at h
    show (ib C x && ibL C xs) = true
    rw [ib_mono hBC x h.1, ibL_mono hBC xs h.2]; rfl
theorem ibK_mono {B C : Nat} (hBC : B ≤ C) : ∀ (kvs : List (D × D)), ibK B kvs = true → ibK C kvs = true
  | [], _ => rfl
  | (k, v) :: r, h => by
    have h : (ib B v && ibK B r) = true := h
    rw [Bool.and_eq_true] at h
    show (ib C v && ibK C r) = true
    rw [ib_mono hBC v h.1, ibK_mono hBC r h.2]; rfl
end
mutual
theorem showI : ∀ (d : D) (n : Nat), ib 1920 d = true → asc d = true → pln n d = true → (py d).showable = true ∧ (py d).depth ≤ n
  | .non, n, _, _, _ => by simp [py, PyData.showable, PyData.depth]
  | .bl b, n, _, _, _ => by simp [py, PyData.showable, PyData.depth]
  | .int i, n, h, _, _ => by
    have := of_decide_eq_true h
    simp [py, PyData.showable, PyData.depth]
    omega
  | .str s, n, _, _, _ => by simp [py, PyData.showable, PyData.depth]
  | .tup xs, 0, h, _, p => by simp [pln] at p
  | .tup xs, n + 1, h, a, p => by
    have p : plnL n xs = true := by simpa [pln] using p
    have q := showIL xs n h (by simpa [asc] using a) p
    simp only [py, PyData.showable, PyData.depth]
    exact ⟨q.1, by have := q.2; omega⟩
  | .lst xs, 0, h, _, p => by simp [pln] at p
  | .lst xs, n + 1, h, a, p => by
    have p : plnL n xs = true := by simpa [pln] using p
    have q := showIL xs n h (by simpa [asc] using a) p
    simp only [py, PyData.showable, PyData.depth]
    exact ⟨q.1, by have := q.2; omega⟩
  | .dct t kvs, 0, h, _, p => by simp [pln] at p
  | .dct t kvs, n + 1, h, a, p => by
    have p : plnL n (kvs.map (·.2)) = true := by
      simp only [pln, Bool.and_eq_true] at p
      exact p.2
    have q := showIK kvs n h (by simpa [asc] using a) p
    simp only [py, PyData.showable, PyData.depth]
    exact ⟨q.1, by have := q.2; omega⟩
  | .fz _, n, _, _, p => by simp [pln] at p
  | .scr _, n, _, _, p => by simp [pln] at p
  | .obj _ _, n, _, _, p => by simp [pln] at p
theorem showIL : ∀ (ds : List D) (n : Nat), ibL 1920 ds = true → ascL ds = true → plnL n ds = true → PyData.showableAll (pyL ds) = true ∧ PyData.depthAll (pyL ds) ≤ n
  | [], n, _, _, _ => by simp [pyL, PyData.showableAll, PyData.depthAll]
  | d :: ds, n, h, a, p => by
    have h : ib 1920 d = true ∧ ibL 1920 ds = true := by
      have h : (ib 1920 d && ibL 1920 ds) = true := h
      rwa [Bool.and_eq_true] at h
    have p : pln n d = true ∧ plnL n ds = true := by simpa [plnL] using p
    have a : asc d = true ∧ ascL ds = true := by simpa [ascL] using a
    have q := showI d n h.1 a.1 p.1
    have r := showIL ds n h.2 a.2 p.2
    simp only [pyL, PyData.showableAll, PyData.depthAll, q.1, r.1, Bool.and_self, true_and]
    have := q.2
    have := r.2
    omega
theorem showIK : ∀ (kvs : List (D × D)) (n : Nat), ibK 1920 kvs = true → ascK kvs = true → plnL n (kvs.map (·.2)) = true → PyData.showableKv (pyK kvs) = true ∧ PyData.depthKv (pyK kvs) ≤ n
  | [], n, _, _, _ => by simp [pyK, PyData.showableKv, PyData.depthKv]
  | (k, v) :: r, n, h, a, p => by
    have h : ib 1920 v = true ∧ ibK 1920 r = true := by
      have h : (ib 1920 v && ibK 1920 r) = true := h
      rwa [Bool.and_eq_true] at h
    have p : pln n v = true ∧ plnL n (r.map (·.2)) = true := by simpa [plnL] using p
    simp only [ascK, Bool.and_eq_true] at a
    have q := showI v n h.1 a.1.2 p.1
    have z := showIK r n h.2 a.2 p.2
    have kk : (py k).showable = true ∧ (py k).depth = 0 := by
      have := a.1.1
      cases k <;> first | (cases this; done) | simp [py, PyData.showable, PyData.depth]
    simp only [pyK, PyData.showableKv, PyData.depthKv, q.1, z.1, kk.1, kk.2, Bool.and_self, true_and]
    have := q.2
    have := z.2
    omega
end
theorem reprI {d : D} (n : Nat) (hn : n ≤ 60) (h : wt d ≤ 1000000) (hi : ib 1920 d = true) (p : pln n d = true) (a : asc d = true) : reprOk d = true := by
  have q := showI d n hi a p
  have e := shown_le d a
  unfold reprOk
  have p60 := pln_mono n 60 d hn p
  have sz : sizeLine = 16777216 := rfl
  rw [p60, q.1, decide_eq_true (by omega : (py d).shown.length ≤ sizeLine), decide_eq_true (by have := q.2; omega : (py d).depth ≤ 60)]
  rfl
/-- data of a bounded size, the ints within by a bound of their own -/
structure Gb (W B n : Nat) (d : D) : Prop where
  g : Gd W n d
  i : ib B d = true
theorem Gb.mono {W W' B B' n n' : Nat} {d : D} (h : Gb W B n d) (h1 : W ≤ W') (h3 : B ≤ B') (h2 : n ≤ n') : Gb W' B' n' d := ⟨h.g.mono h1 h2, ib_mono h3 d h.i⟩
theorem Gb.repr {W B n : Nat} {d : D} (h : Gb W B n d) (h1 : W ≤ 1000000) (h3 : B ≤ 1920) (h2 : n ≤ 60) : reprOk d = true := reprI n h2 (by have := h.g.w; omega) (ib_mono h3 d h.i) h.g.p h.g.a
theorem Gd.gb {W n : Nat} {d : D} (h : Gd W n d) : Gb W W n d := ⟨h, ib_wt d W h.w⟩
theorem Gb.item {W B n : Nat} {xs : List D} {x : D} (h : Gb W B (n + 1) (.tup xs)) (hx : x ∈ xs) : Gb W B n x := by
  refine ⟨⟨?_, plnL_mem (by have := h.g.p; simpa [pln] using this) hx, ascL_mem h.g.a hx⟩, ibL_mem h.i x hx⟩
  have := h.g.w
  rw [wt] at this
  have := wtL_mem hx
  omega
end PD
end

section
set_option Elab.async false
set_option linter.all false
set_option maxRecDepth 100000
set_option maxHeartbeats 4000000
/-! K14I: the text of shuntrounds_k14_what_is_no_program in the small language -/
namespace K14
open PD PySem
/-- is_name -/
def f0 : Fn := ⟨1, 2, [false, false], false,
      (.cons (.ret (.an (.isi (.var 0) .str) (.an (.chn .le .le (.int 1) (.b1 .len (.var 0)) (.int 8)) (.b1 .all (.cmpr (.cmp .isin (.var 1) (.glo 3)) (.nm 1) [1] (.ex (.var 0)) (.bl true))))))
      .nil)⟩
def n0 : List Str := ["value", "letter"]
/-- is_below -/
def f1 : Fn := ⟨2, 2, [false, false], false,
      (.cons (.ret (.an (.isi (.var 0) .int) (.an (.nt (.isi (.var 0) .bool)) (.chn .le .lt (.int 0) (.var 0) (.var 1)))))
      .nil)⟩
def n1 : List Str := ["value", "limit"]
/-- is_evening -/
def f2 : Fn := ⟨1, 1, [false], false,
      (.cons (.ret (.cal 1 (.cons (.var 0) (.cons (.int 3) .nil))))
      .nil)⟩
def n2 : List Str := ["value"]
/-- is_way -/
def f3 : Fn := ⟨1, 1, [false], false,
      (.cons (.ret (.an (.isi (.var 0) .str) (.cmp .isin (.var 0) (.tup (.cons (.str "a") (.cons (.str "b") (.cons (.str "c") .nil)))))))
      .nil)⟩
def n3 : List Str := ["value"]
/-- is_ways -/
def f4 : Fn := ⟨1, 2, [false, false], false,
      (.cons (.ret (.an (.isi (.var 0) .str) (.an (.cmp .eq (.b1 .len (.var 0)) (.int 3)) (.b1 .all (.cmpr (.cmp .isin (.var 1) (.glo 4)) (.nm 1) [1] (.ex (.var 0)) (.bl true))))))
      .nil)⟩
def n4 : List Str := ["value", "letter"]
/-- is_part -/
def f5 : Fn := ⟨2, 2, [false, false], false,
      (.cons (.ite (.cmp .isin (.var 0) (.str "an"))
      (.cons (.ret (.cal 0 (.cons (.var 1) .nil)))
      .nil)
      .nil)
      (.cons (.ite (.cmp .eq (.var 0) (.str "e"))
      (.cons (.ret (.cal 2 (.cons (.var 1) .nil)))
      .nil)
      .nil)
      (.cons (.ite (.cmp .eq (.var 0) (.str "i"))
      (.cons (.ret (.cal 1 (.cons (.var 1) (.cons (.int 4) .nil))))
      .nil)
      .nil)
      (.cons (.ret (.ite (.cmp .eq (.var 0) (.str "w")) (.cal 3 (.cons (.var 1) .nil)) (.cal 4 (.cons (.var 1) .nil))))
      .nil))))⟩
def n5 : List Str := ["kind", "value"]
/-- deed_error -/
def f6 : Fn := ⟨1, 4, [false, false, false, false], false,
      (.cons (.ite (.orr (.nt (.isi (.var 0) .tuple)) (.orr (.cmp .eq (.b1 .len (.var 0)) (.int 0)) (.nt (.isi (.ix (.var 0) (.int 0)) .str))))
      (.cons (.ret (.str "deed"))
      .nil)
      .nil)
      (.cons (.ite (.orr (.gin 5 true (.ix (.var 0) (.int 0))) (.cmp .ne (.b1 .len (.var 0)) (.bin .add (.int 1) (.b1 .len (.gget 5 (.ix (.var 0) (.int 0)))))))
      (.cons (.ret (.str "deed"))
      .nil)
      .nil)
      (.cons (.asg (.nm 1) (.gget 5 (.ix (.var 0) (.int 0))))
      (.cons (.ret (.ite (.b1 .all (.cmpr (.cal 5 (.cons (.var 2) (.cons (.var 3) .nil))) (.tp [2, 3]) [2, 3] (.zip (.var 1) (.sl (.var 0) (.int 1) .nop)) (.bl true))) .non (.str "part")))
      .nil))))⟩
def n6 : List Str := ["value", "kinds", "kind", "item"]
/-- named -/
def f7 : Fn := ⟨2, 4, [false, false, false, false], true,
      (.cons (.ret (.cmpr (.var 3) (.tp [2, 3]) [2, 3] (.zip (.gget 5 (.ix (.var 0) (.int 0))) (.sl (.var 0) (.int 1) .nop)) (.cmp .eq (.var 2) (.var 1))))
      .nil)⟩
def n7 : List Str := ["deed", "kind", "sort", "item"]
/-- names_in -/
def f8 : Fn := ⟨1, 5, [false, true, false, false, false], false,
      (.cons (.own 1 (.dct false .nil .nil))
      (.cons (.fr (.nm 2) (.ex (.var 0))
      (.cons (.fr (.nm 4) (.ex (.cal 7 (.cons (.var 2) (.cons (.str "n") .nil))))
      (.cons (.expr (.sdf 1 (.var 4) (.bl true)))
      .nil))
      (.cons (.fr (.nm 4) (.ex (.cal 7 (.cons (.var 2) (.cons (.str "a") .nil))))
      (.cons (.expr (.sdf 1 (.var 4) (.bl false)))
      .nil))
      .nil)))
      (.cons (.asg (.nm 3) (.lockd 1 (.cmpr (.var 4) (.nm 4) [4] (.ex (.var 1)) (.nt (.ix (.var 1) (.var 4))))))
      (.cons (.ret (.tup (.cons (.b1 .tuple (.b1 .sorted (.var 3))) (.cons (.b1 .tuple (.b1 .sorted (.lockd 1 (.cmpr (.var 4) (.nm 4) [4] (.ex (.var 1)) (.ix (.var 1) (.var 4)))))) .nil))))
      .nil))))⟩
def n8 : List Str := ["deeds", "comes", "deed", "old", "name"]
/-- program_error -/
def f9 : Fn := ⟨1, 6, [false, false, false, false, false, false], false,
      (.cons (.ite (.orr (.nt (.isi (.var 0) .tuple)) (.cmp .gt (.b1 .len (.var 0)) (.glo 0)))
      (.cons (.ret (.tup (.cons .non (.cons (.str "program") .nil))))
      .nil)
      .nil)
      (.cons (.fr (.tp [1, 2]) (.enum (.var 0))
      (.cons (.asg (.nm 5) (.cal 6 (.cons (.var 2) .nil)))
      (.cons (.ite (.cmp .isn (.var 5) .non)
      (.cons (.ret (.tup (.cons (.var 1) (.cons (.var 5) .nil))))
      .nil)
      .nil)
      .nil)))
      (.cons (.asg (.tp [3, 4]) (.cal 8 (.cons (.var 0) .nil)))
      (.cons (.ite (.cmp .gt (.b1 .len (.var 3)) (.glo 2))
      (.cons (.ret (.tup (.cons .non (.cons (.str "old") .nil))))
      .nil)
      .nil)
      (.cons (.ret (.ite (.cmp .gt (.b1 .len (.var 4)) (.glo 1)) (.tup (.cons .non (.cons (.str "new") .nil))) .non))
      .nil)))))⟩
def n9 : List Str := ["value", "index", "deed", "old", "new", "word"]
/-- _law_deck -/
def f10 : Fn := ⟨1, 5, [false, false, false, false, false], true,
      (.cons (.par [1, 2] (.cons (.int 0) (.cons (.bin .add (.int 2936) (.bin .mul (.int 41) (.b1 .len (.var 0)))) .nil)))
      (.cons (.fr (.nm 3) (.ex (.sl (.var 0) .nop (.int 60)))
      (.cons (.asg (.nm 4) (.bin .add (.bin .add (.bin .mul (.int 2) (.b1 .abs (.var 3))) (.b1 .int (.cmp .lt (.var 3) (.int 0)))) (.int 1)))
      (.cons (.asg (.nm 2) (.bin .mod (.b1 .int (.bin .add (.bin .mul (.var 2) (.int 6364136223846793005)) (.var 4))) (.int 2305843009213693951)))
      (.cons (.ite (.cmp .ge (.b1 .abs (.var 3)) (.bin .pow (.int 10) (.int 18)))
      (.cons (.asg (.nm 1) (.bin .add (.bin .mul (.var 1) (.int 37)) (.b1 .abs (.var 3))))
      .nil)
      .nil)
      .nil))))
      (.cons (.ret (.lst (.cons (.var 1) (.cons (.var 2) (.cons (.int 0) .nil)))))
      .nil)))⟩
def n10 : List Str := ["_law_script", "_law_great", "_law_mixed", "_law_cell", "_law_more"]
/-- _law_draw -/
def f11 : Fn := ⟨2, 4, [true, false, false, false], false,
      (.cons (.ite (.cmp .gt (.ix (.bor 0) (.int 0)) (.int 0))
      (.cons (.asg (.nm 3) (.bin .mod (.b1 .int (.ix (.bor 0) (.int 0))) (.var 1)))
      (.cons (.setix 0 (.int 0) (.bin .fdiv (.ix (.bor 0) (.int 0)) (.var 1)))
      (.cons (.ret (.var 3))
      .nil)))
      .nil)
      (.cons (.setix 0 (.int 2) (.bin .add (.ix (.bor 0) (.int 2)) (.int 1)))
      (.cons (.asg (.nm 2) (.bin .mod (.b1 .int (.bin .add (.ix (.bor 0) (.int 1)) (.bin .mul (.int 11400714819323198485) (.ix (.bor 0) (.int 2))))) (.int 18446744073709551557)))
      (.cons (.asg (.nm 2) (.bin .mod (.b1 .int (.bin .mul (.var 2) (.bin .add (.bin .mod (.var 2) (.int 4294967291)) (.int 11)))) (.int 2305843009213693951)))
      (.cons (.ret (.bin .mod (.bin .fdiv (.bin .mod (.b1 .int (.bin .mul (.var 2) (.var 2))) (.int 2305843009213693921)) (.int 2048)) (.var 1)))
      .nil)))))⟩
def n11 : List Str := ["_law_deck_here", "_law_many", "_law_mixed", "_law_digit"]
/-- _law_pick -/
def f12 : Fn := ⟨2, 2, [true, false], false,
      (.cons (.ret (.ix (.var 1) (.cal 11 (.cons (.bor 0) (.cons (.b1 .len (.var 1)) .nil)))))
      .nil)⟩
def n12 : List Str := ["_law_deck_here", "_law_items"]
/-- _law_is_name -/
def f13 : Fn := ⟨1, 1, [false], false,
      (.cons (.ite (.orr (.nt (.isi (.var 0) .str)) (.orr (.cmp .eq (.var 0) (.str "")) (.cmp .gt (.b1 .len (.var 0)) (.int 8))))
      (.cons (.ret (.bl false))
      .nil)
      .nil)
      (.cons (.ret (.cmp .eq (.m1 .strip (.var 0) (.str "abcdefghijklmnopqrstuvwxyz")) (.str "")))
      .nil))⟩
def n13 : List Str := ["_law_value"]
/-- _law_menu -/
def f14 : Fn := ⟨2, 14, [true, false, true, false, false, false, false, false, false, false, false, false, false, false], false,
      (.cons (.own 2 (.lst (.cons (.str "p q r s t u v w x y") (.cons (.str "x xa xab a aa ab b ba z zz") .nil))))
      (.cons (.expr (.mm1 .append 2 (.str "aaaaaaaa aaaaaaab aaaaaaac baaaaaaa z y zy abc c d")))
      (.cons (.expr (.mm1 .append 2 (.str "set step fuse put way here one need bar swap")))
      (.cons (.asg (.nm 3) (.cal 11 (.cons (.bor 0) (.cons (.int 8) .nil))))
      (.cons (.ite (.cmp .lt (.var 3) (.int 4))
      (.cons (.par [10, 11] (.cons (.cal 11 (.cons (.bor 0) (.cons (.int 10) .nil))) (.cons (.m1 .split (.ix (.bor 2) (.var 3)) (.str " ")) .nil)))
      (.cons (.ret (.sl (.bin .add (.var 11) (.var 11)) (.var 10) (.bin .add (.var 10) (.var 1))))
      .nil))
      .nil)
      (.cons (.asg (.nm 4) (.str "abcdefghijklmnopqrstuvwxyz"))
      (.cons (.asg (.nm 5) (.m1 .join (.str "") (.cmpr (.cal 12 (.cons (.bor 0) (.cons (.var 4) .nil))) (.nm 12) [12] (.rng1 (.bin .add (.int 1) (.cal 11 (.cons (.bor 0) (.cons (.int 8) .nil))))) (.bl true))))
      (.cons (.asg (.tp [6, 7]) (.tup (.cons (.cal 11 (.cons (.bor 0) (.cons (.b1 .len (.var 5)) .nil))) (.cons (.cal 11 (.cons (.bor 0) (.cons (.int 26) .nil))) .nil))))
      (.cons (.asg (.nm 8) (.bin .add (.int 1) (.bin .mul (.int 2) (.cal 11 (.cons (.bor 0) (.cons (.int 6) .nil))))))
      (.cons (.asg (.nm 9) (.cmpr (.ix (.var 4) (.bin .mod (.b1 .int (.bin .add (.var 7) (.bin .mul (.var 8) (.var 12)))) (.int 26))) (.nm 12) [12] (.rng1 (.var 1)) (.bl true)))
      (.cons (.ret (.cmpr (.bin .add (.bin .add (.sl (.var 5) .nop (.var 6)) (.var 13)) (.sl (.var 5) (.bin .add (.var 6) (.int 1)) .nop)) (.nm 13) [13] (.ex (.var 9)) (.bl true)))
      .nil)))))))))))⟩
def n14 : List Str := ["_law_deck_here", "_law_many", "_law_menus", "_law_way", "_law_letters", "_law_text", "_law_at", "_law_begin", "_law_step", "_law_signs", "_law_first", "_law_row", "_law_k", "_law_sign"]
/-- _law_is_below -/
def f15 : Fn := ⟨2, 2, [false, false], false,
      (.cons (.ret (.an (.isi (.var 0) .int) (.an (.nt (.isi (.var 0) .bool)) (.chn .le .lt (.int 0) (.var 0) (.var 1)))))
      .nil)⟩
def n15 : List Str := ["_law_value", "_law_limit"]
/-- _law_ways -/
def f16 : Fn := ⟨1, 2, [true, false], false,
      (.cons (.ret (.m1 .join (.str "") (.cmpr (.cal 12 (.cons (.bor 0) (.cons (.str "abc") .nil))) (.nm 1) [1] (.rng1 (.int 3)) (.bl true))))
      .nil)⟩
def n16 : List Str := ["_law_deck_here", "_law_k"]
/-- _law_parts -/
def f17 : Fn := ⟨1, 2, [false, false], false,
      (.cons (.asg (.nm 1) (.str "set aew step ae change aee evenings ee wires aiai swap aa"))
      (.cons (.asg (.nm 1) (.m1 .split (.bin .add (.var 1) (.str " fuse aw put naiaiv need aew bar aew")) (.str " ")))
      (.cons (.ret (.ix (.var 1) (.bin .add (.m1 .index (.var 1) (.var 0)) (.int 1))))
      .nil)))⟩
def n17 : List Str := ["_law_word", "_law_rows"]
/-- _law_words -/
def f18 : Fn := ⟨0, 0, [], false,
      (.cons (.ret (.m1 .split (.str "set step change evenings wires swap fuse put need bar") (.str " ")))
      .nil)⟩
def n18 : List Str := []
/-- _law_old -/
def f19 : Fn := ⟨1, 3, [false, false, false], true,
      (.cons (.ret (.cmpr (.var 2) (.tp [1, 2]) [1, 2] (.zip (.cal 17 (.cons (.ix (.var 0) (.int 0)) .nil)) (.sl (.var 0) (.int 1) .nop)) (.cmp .eq (.var 1) (.str "a"))))
      .nil)⟩
def n19 : List Str := ["_law_deed_here", "_law_kind", "_law_item_here"]
/-- _law_names -/
def f20 : Fn := ⟨1, 5, [false, true, true, false, false], true,
      (.cons (.par [1, 2] (.cons (.lst .nil) (.cons (.lst .nil) .nil)))
      (.cons (.fr (.nm 3) (.ex (.var 0))
      (.cons (.ite (.an (.cmp .eq (.ix (.var 3) (.int 0)) (.str "put")) (.cmp .nin (.ix (.var 3) (.int 1)) (.bin .add (.bor 1) (.bor 2))))
      (.cons (.expr (.mm1 .append 2 (.ix (.var 3) (.int 1))))
      .nil)
      .nil)
      (.cons (.expr (.mm1 .extend 1 (.cmpr (.var 4) (.nm 4) [4] (.ex (.cal 19 (.cons (.var 3) .nil))) (.cmp .nin (.var 4) (.bin .add (.bor 1) (.bor 2))))))
      .nil)))
      (.cons (.ret (.lst (.cons (.b1 .sset (.bor 1)) (.cons (.b1 .sorted (.bor 2)) .nil))))
      .nil)))⟩
def n20 : List Str := ["_law_deeds", "_law_old_here", "_law_new", "_law_deed_here", "_law_name"]
/-- _law_item -/
def f21 : Fn := ⟨3, 3, [true, false, false], false,
      (.cons (.ite (.cmp .isin (.var 1) (.tup (.cons (.str "a") (.cons (.str "n") .nil))))
      (.cons (.ret (.cal 12 (.cons (.bor 0) (.cons (.var 2) .nil))))
      .nil)
      .nil)
      (.cons (.ite (.cmp .eq (.var 1) (.str "e"))
      (.cons (.ret (.cal 11 (.cons (.bor 0) (.cons (.int 3) .nil))))
      .nil)
      .nil)
      (.cons (.ite (.cmp .eq (.var 1) (.str "i"))
      (.cons (.ret (.cal 11 (.cons (.bor 0) (.cons (.int 4) .nil))))
      .nil)
      .nil)
      (.cons (.ret (.ite (.cmp .eq (.var 1) (.str "w")) (.cal 12 (.cons (.bor 0) (.cons (.str "abc") .nil))) (.cal 16 (.cons (.bor 0) .nil))))
      .nil))))⟩
def n21 : List Str := ["_law_deck_here", "_law_kind", "_law_called"]
/-- _law_deed -/
def f22 : Fn := ⟨3, 5, [true, false, false, false, false], false,
      (.cons (.asg (.nm 3) (.cal 12 (.cons (.bor 0) (.cons (.var 2) .nil))))
      (.cons (.ret (.bin .add (.tup (.cons (.var 3) .nil)) (.b1 .tuple (.cmpr (.cal 21 (.cons (.bor 0) (.cons (.var 4) (.cons (.var 1) .nil)))) (.nm 4) [4] (.ex (.cal 17 (.cons (.var 3) .nil))) (.bl true)))))
      .nil))⟩
def n22 : List Str := ["_law_deck_here", "_law_called", "_law_words_here", "_law_word", "_law_kind"]
/-- _law_odd -/
def f23 : Fn := ⟨1, 2, [true, false], false,
      (.cons (.asg (.nm 1) (.lst (.cons .non (.cons (.bl true) (.cons (.bl false) (.cons (.int 0) (.cons (.int 1) (.cons (.int 3) (.cons (.int 4) (.cons (.neg (.int 1)) (.cons (.bin .pow (.int 10) (.int 30)) (.cons (.str "") (.cons (.str "p") (.cons (.str "abc") (.cons (.str "P") (.cons (.str "a b") (.cons (.str "aaaaaaaaa") (.cons (.tup .nil) (.cons (.lst .nil) (.cons (.dct false .nil .nil) .nil))))))))))))))))))))
      (.cons (.asg (.nm 1) (.bin .add (.var 1) (.lst (.cons (.tup (.cons (.str "p") .nil)) (.cons (.lst (.cons (.str "p") (.cons (.int 0) .nil))) (.cons (.tup (.cons (.str "p") (.cons (.int 0) .nil))) (.cons (.tup (.cons (.str "p") (.cons (.str "abc") .nil))) (.cons (.tup (.cons (.tup .nil) (.cons (.tup .nil) (.cons (.int 0) .nil)))) (.cons (.tup (.cons (.str "p") (.cons (.bl true) .nil))) (.cons (.tup (.cons (.str "p") (.cons (.int 4) .nil))) (.cons (.str "d") (.cons (.dct false (.cons (.str "p") .nil) (.cons (.int 0) .nil)) (.cons (.str "c") .nil)))))))))))))
      (.cons (.ret (.cal 12 (.cons (.bor 0) (.cons (.var 1) .nil))))
      .nil)))⟩
def n23 : List Str := ["_law_deck_here", "_law_some"]
/-- _law_spoilt -/
def f24 : Fn := ⟨3, 5, [true, false, false, false, false], false,
      (.cons (.ite (.an (.isi (.var 1) .tuple) (.an (.cmp .ne (.var 1) (.tup .nil)) (.an (.cmp .gt (.var 2) (.int 0)) (.cmp .gt (.cal 11 (.cons (.bor 0) (.cons (.int 5) .nil))) (.int 0)))))
      (.cons (.asg (.nm 3) (.cal 11 (.cons (.bor 0) (.cons (.b1 .len (.var 1)) .nil))))
      (.cons (.ret (.bin .add (.bin .add (.sl (.var 1) .nop (.var 3)) (.tup (.cons (.cal 24 (.cons (.bor 0) (.cons (.ix (.var 1) (.var 3)) (.cons (.bin .sub (.var 2) (.int 1)) .nil)))) .nil))) (.sl (.var 1) (.bin .add (.var 3) (.int 1)) .nop)))
      .nil))
      .nil)
      (.cons (.ite (.isi (.var 1) .tuple)
      (.cons (.asg (.nm 3) (.cal 11 (.cons (.bor 0) (.cons (.bin .add (.b1 .len (.var 1)) (.int 1)) .nil))))
      (.cons (.asg (.nm 4) (.lst (.cons (.b1 .list (.var 1)) (.cons (.bin .add (.sl (.var 1) .nop (.var 3)) (.sl (.var 1) (.bin .add (.var 3) (.int 1)) .nop)) (.cons (.bin .add (.bin .add (.sl (.var 1) .nop (.var 3)) (.sl (.var 1) .nop (.int 1))) (.sl (.var 1) (.var 3) .nop)) (.cons (.rev (.var 1)) .nil))))))
      (.cons (.ret (.cal 12 (.cons (.bor 0) (.cons (.bin .add (.var 4) (.lst (.cons (.bin .add (.sl (.var 1) (.int 1) .nop) (.sl (.var 1) .nop (.int 1))) (.cons (.cal 23 (.cons (.bor 0) .nil)) .nil)))) .nil))))
      .nil)))
      .nil)
      (.cons (.ite (.isi (.var 1) .str)
      (.cons (.asg (.nm 4) (.lst (.cons (.bin .add (.var 1) (.str "a")) (.cons (.sl (.var 1) (.int 1) .nop) (.cons (.m0 .upper (.var 1)) (.cons (.bin .add (.var 1) (.str "\n")) (.cons (.lst (.cons (.var 1) .nil)) (.cons (.tup (.cons (.var 1) .nil)) (.cons (.rev (.var 1)) (.cons (.bin .add (.str "z") (.var 1)) .nil))))))))))
      (.cons (.ret (.cal 12 (.cons (.bor 0) (.cons (.bin .add (.var 4) (.lst (.cons (.cal 23 (.cons (.bor 0) .nil)) .nil))) .nil))))
      .nil))
      .nil)
      (.cons (.ite (.an (.isi (.var 1) .int) (.nt (.isi (.var 1) .bool)))
      (.cons (.ret (.cal 12 (.cons (.bor 0) (.cons (.lst (.cons (.bin .add (.var 1) (.int 1)) (.cons (.bin .sub (.var 1) (.int 1)) (.cons (.bin .sub (.int 0) (.var 1)) (.cons (.cmp .eq (.var 1) (.int 1)) (.cons (.b1 .str (.var 1)) (.cons (.cal 23 (.cons (.bor 0) .nil)) .nil))))))) .nil))))
      .nil)
      .nil)
      (.cons (.ret (.cal 23 (.cons (.bor 0) .nil)))
      .nil)))))⟩
def n24 : List Str := ["_law_deck_here", "_law_value", "_law_deep", "_law_at", "_law_some"]
/-- _law_is_ways -/
def f25 : Fn := ⟨1, 1, [false], false,
      (.cons (.ret (.an (.isi (.var 0) .str) (.an (.cmp .eq (.b1 .len (.var 0)) (.int 3)) (.cmp .eq (.m1 .strip (.var 0) (.str "abc")) (.str "")))))
      .nil)⟩
def n25 : List Str := ["_law_value"]
/-- _law_is_part -/
def f26 : Fn := ⟨2, 2, [false, false], false,
      (.cons (.ite (.cmp .isin (.var 0) (.tup (.cons (.str "a") (.cons (.str "n") .nil))))
      (.cons (.ret (.cal 13 (.cons (.var 1) .nil)))
      .nil)
      .nil)
      (.cons (.ite (.cmp .isin (.var 0) (.tup (.cons (.str "e") (.cons (.str "i") .nil))))
      (.cons (.ret (.cal 15 (.cons (.var 1) (.cons (.bin .add (.int 3) (.b1 .int (.cmp .eq (.var 0) (.str "i")))) .nil))))
      .nil)
      .nil)
      (.cons (.ret (.ite (.cmp .eq (.var 0) (.str "v")) (.cal 25 (.cons (.var 1) .nil)) (.an (.isi (.var 1) .str) (.cmp .isin (.var 1) (.tup (.cons (.str "a") (.cons (.str "b") (.cons (.str "c") .nil))))))))
      .nil)))⟩
def n26 : List Str := ["_law_kind", "_law_value"]
/-- _law_deed_error -/
def f27 : Fn := ⟨1, 5, [false, false, false, false, false], false,
      (.cons (.ite (.orr (.nt (.isi (.var 0) .tuple)) (.orr (.cmp .eq (.var 0) (.tup .nil)) (.orr (.nt (.isi (.ix (.var 0) (.int 0)) .str)) (.cmp .nin (.ix (.var 0) (.int 0)) (.cal 18 .nil)))))
      (.cons (.ret (.str "deed"))
      .nil)
      .nil)
      (.cons (.asg (.nm 1) (.cal 17 (.cons (.ix (.var 0) (.int 0)) .nil)))
      (.cons (.ite (.cmp .ne (.b1 .len (.var 0)) (.bin .add (.int 1) (.b1 .len (.var 1))))
      (.cons (.ret (.str "deed"))
      .nil)
      .nil)
      (.cons (.asg (.nm 2) (.cmpr (.var 4) (.tp [3, 4]) [3, 4] (.zip (.var 1) (.sl (.var 0) (.int 1) .nop)) (.nt (.cal 26 (.cons (.var 3) (.cons (.var 4) .nil))))))
      (.cons (.ret (.ite (.cmp .ne (.var 2) (.lst .nil)) (.str "part") .non))
      .nil)))))⟩
def n27 : List Str := ["_law_value", "_law_kinds", "_law_wrong", "_law_kind", "_law_item_here"]
/-- _law_program_error -/
def f28 : Fn := ⟨1, 5, [false, false, false, false, false], false,
      (.cons (.ite (.orr (.nt (.isi (.var 0) .tuple)) (.cmp .gt (.b1 .len (.var 0)) (.int 12)))
      (.cons (.ret (.tup (.cons .non (.cons (.str "program") .nil))))
      .nil)
      .nil)
      (.cons (.fr (.tp [1, 2]) (.enum (.var 0))
      (.cons (.ite (.cmp .isn (.cal 27 (.cons (.var 2) .nil)) .non)
      (.cons (.ret (.tup (.cons (.var 1) (.cons (.cal 27 (.cons (.var 2) .nil)) .nil))))
      .nil)
      .nil)
      .nil))
      (.cons (.asg (.tp [3, 4]) (.cal 20 (.cons (.var 0) .nil)))
      (.cons (.ite (.cmp .gt (.b1 .len (.var 3)) (.int 3))
      (.cons (.ret (.tup (.cons .non (.cons (.str "old") .nil))))
      .nil)
      .nil)
      (.cons (.ret (.ite (.cmp .gt (.b1 .len (.var 4)) (.int 2)) (.tup (.cons .non (.cons (.str "new") .nil))) .non))
      .nil)))))⟩
def n28 : List Str := ["_law_value", "_law_index", "_law_deed_here", "_law_old_here", "_law_new"]
/-- law -/
def f29 : Fn := ⟨1, 11, [false, true, false, false, false, false, false, false, false, false, false], false,
      (.cons (.own 1 (.cal 10 (.cons (.var 0) .nil)))
      (.cons (.fr (.nm 2) (.rng1 (.int 8))
      (.cons (.asg (.nm 3) (.cal 14 (.cons (.bor 1) (.cons (.bin .add (.int 2) (.cal 11 (.cons (.bor 1) (.cons (.int 5) .nil)))) .nil))))
      (.cons (.asg (.nm 4) (.ix (.lst (.cons (.cal 18 .nil) (.cons (.lst (.cons (.str "put") (.cons (.str "fuse") (.cons (.str "step") .nil)))) (.cons (.lst (.cons (.str "step") (.cons (.str "wires") .nil))) .nil)))) (.cal 11 (.cons (.bor 1) (.cons (.int 3) .nil)))))
      (.cons (.asg (.nm 5) (.ix (.lst (.cons (.cal 11 (.cons (.bor 1) (.cons (.int 6) .nil))) (.cons (.bin .add (.int 11) (.cal 11 (.cons (.bor 1) (.cons (.int 4) .nil)))) .nil))) (.b1 .int (.cmp .eq (.cal 11 (.cons (.bor 1) (.cons (.int 3) .nil))) (.int 0)))))
      (.cons (.asg (.nm 6) (.b1 .tuple (.cmpr (.cal 22 (.cons (.bor 1) (.cons (.var 3) (.cons (.var 4) .nil)))) (.nm 10) [10] (.rng1 (.var 5)) (.bl true))))
      (.cons (.fr (.nm 7) (.rng1 (.ix (.lst (.cons (.int 0) (.cons (.int 0) (.cons (.int 1) (.cons (.int 2) .nil))))) (.cal 11 (.cons (.bor 1) (.cons (.int 4) .nil)))))
      (.cons (.asg (.nm 6) (.cal 24 (.cons (.bor 1) (.cons (.var 6) (.cons (.int 2) .nil)))))
      .nil))
      (.cons (.asg (.nm 8) (.b1 .repr (.var 6)))
      (.cons (.ite (.orr (.cmp .ne (.b1 .repr (.cal 9 (.cons (.var 6) .nil))) (.b1 .repr (.cal 28 (.cons (.var 6) .nil)))) (.cmp .ne (.b1 .repr (.var 6)) (.var 8)))
      (.cons (.ret (.bl false))
      .nil)
      .nil)
      (.cons (.asg (.nm 9) (.cal 23 (.cons (.bor 1) .nil)))
      (.cons (.ite (.cmp .ne (.b1 .repr (.cal 9 (.cons (.var 9) .nil))) (.b1 .repr (.cal 28 (.cons (.var 9) .nil))))
      (.cons (.ret (.bl false))
      .nil)
      .nil)
      .nil))))))))))
      (.cons (.ret (.bl true))
      .nil)))⟩
def n29 : List Str := ["_law_script", "_law_deck_here", "_law_turn", "_law_called", "_law_words_here", "_law_count", "_law_value", "_law_change", "_law_shown", "_law_odd_here", "_law_k"]
def fns : List Fn := [f0, f1, f2, f3, f4, f5, f6, f7, f8, f9, f10, f11, f12, f13, f14, f15, f16, f17, f18, f19, f20, f21, f22, f23, f24, f25, f26, f27, f28, f29]
def fnames : List (Str × Nat) := [("is_name", 0), ("is_below", 1), ("is_evening", 2), ("is_way", 3), ("is_ways", 4), ("is_part", 5), ("deed_error", 6), ("named", 7), ("names_in", 8), ("program_error", 9), ("_law_deck", 10), ("_law_draw", 11), ("_law_pick", 12), ("_law_is_name", 13), ("_law_menu", 14), ("_law_is_below", 15), ("_law_ways", 16), ("_law_parts", 17), ("_law_words", 18), ("_law_old", 19), ("_law_names", 20), ("_law_item", 21), ("_law_deed", 22), ("_law_odd", 23), ("_law_spoilt", 24), ("_law_is_ways", 25), ("_law_is_part", 26), ("_law_deed_error", 27), ("_law_program_error", 28), ("law", 29)]
def gl : List D := [(.int 12), (.int 2), (.int 3), (.str "abcdefghijklmnopqrstuvwxyz"), (.str "abc"), (.dct false [((.str "set"), (.str "aew")), ((.str "step"), (.str "ae")), ((.str "change"), (.str "aee")), ((.str "evenings"), (.str "ee")), ((.str "wires"), (.str "aiai")), ((.str "swap"), (.str "aa")), ((.str "fuse"), (.str "aw")), ((.str "put"), (.str "naiaiv")), ((.str "need"), (.str "aew")), ((.str "bar"), (.str "aew"))])]
def gnames : List (Str × Nat) := [("MAX_DEEDS", 0), ("MAX_NEW", 1), ("MAX_OLD", 2), ("LETTERS", 3), ("WAYS", 4)]
def gdicts : List (Str × Nat) := [("PARTS", 5)]
open L2 PySem.Spec PyProof.Rows
def top (i : Nat) : Stmt := PySem.Challenge.pw_shuntrounds_k14_what_is_no_program.main.body.getD i (.Pass ⟨0, 0, 0, 0⟩)
def d0 : DT := ⟨"is_name", top 6, n0⟩
def d1 : DT := ⟨"is_below", top 7, n1⟩
def d2 : DT := ⟨"is_evening", top 8, n2⟩
def d3 : DT := ⟨"is_way", top 9, n3⟩
def d4 : DT := ⟨"is_ways", top 10, n4⟩
def d5 : DT := ⟨"is_part", top 13, n5⟩
def d6 : DT := ⟨"deed_error", top 14, n6⟩
def d7 : DT := ⟨"named", top 15, n7⟩
def d8 : DT := ⟨"names_in", top 16, n8⟩
def d9 : DT := ⟨"program_error", top 17, n9⟩
def d10 : DT := ⟨"_law_deck", top 19, n10⟩
def d11 : DT := ⟨"_law_draw", top 20, n11⟩
def d12 : DT := ⟨"_law_pick", top 21, n12⟩
def d13 : DT := ⟨"_law_is_name", top 22, n13⟩
def d14 : DT := ⟨"_law_menu", top 23, n14⟩
def d15 : DT := ⟨"_law_is_below", top 24, n15⟩
def d16 : DT := ⟨"_law_ways", top 25, n16⟩
def d17 : DT := ⟨"_law_parts", top 26, n17⟩
def d18 : DT := ⟨"_law_words", top 27, n18⟩
def d19 : DT := ⟨"_law_old", top 28, n19⟩
def d20 : DT := ⟨"_law_names", top 29, n20⟩
def d21 : DT := ⟨"_law_item", top 30, n21⟩
def d22 : DT := ⟨"_law_deed", top 31, n22⟩
def d23 : DT := ⟨"_law_odd", top 32, n23⟩
def d24 : DT := ⟨"_law_spoilt", top 33, n24⟩
def d25 : DT := ⟨"_law_is_ways", top 34, n25⟩
def d26 : DT := ⟨"_law_is_part", top 35, n26⟩
def d27 : DT := ⟨"_law_deed_error", top 36, n27⟩
def d28 : DT := ⟨"_law_program_error", top 37, n28⟩
def d29 : DT := ⟨"law", top 38, n29⟩
def dts : List DT := [d0, d1, d2, d3, d4, d5, d6, d7, d8, d9, d10, d11, d12, d13, d14, d15, d16, d17, d18, d19, d20, d21, d22, d23, d24, d25, d26, d27, d28, d29]
def T : Tx := ⟨dts, fns, gnames, gdicts⟩
theorem ok0 : defB T 200 d0 f0 = true := by decide +kernel
theorem ok1 : defB T 200 d1 f1 = true := by decide +kernel
theorem ok2 : defB T 200 d2 f2 = true := by decide +kernel
theorem ok3 : defB T 200 d3 f3 = true := by decide +kernel
theorem ok4 : defB T 200 d4 f4 = true := by decide +kernel
theorem ok5 : defB T 200 d5 f5 = true := by decide +kernel
theorem ok6 : defB T 200 d6 f6 = true := by decide +kernel
theorem ok7 : defB T 200 d7 f7 = true := by decide +kernel
theorem ok8 : defB T 200 d8 f8 = true := by decide +kernel
theorem ok9 : defB T 200 d9 f9 = true := by decide +kernel
theorem ok10 : defB T 200 d10 f10 = true := by decide +kernel
theorem ok11 : defB T 200 d11 f11 = true := by decide +kernel
theorem ok12 : defB T 200 d12 f12 = true := by decide +kernel
theorem ok13 : defB T 200 d13 f13 = true := by decide +kernel
theorem ok14 : defB T 200 d14 f14 = true := by decide +kernel
theorem ok15 : defB T 200 d15 f15 = true := by decide +kernel
theorem ok16 : defB T 200 d16 f16 = true := by decide +kernel
theorem ok17 : defB T 200 d17 f17 = true := by decide +kernel
theorem ok18 : defB T 200 d18 f18 = true := by decide +kernel
theorem ok19 : defB T 200 d19 f19 = true := by decide +kernel
theorem ok20 : defB T 200 d20 f20 = true := by decide +kernel
theorem ok21 : defB T 200 d21 f21 = true := by decide +kernel
theorem ok22 : defB T 200 d22 f22 = true := by decide +kernel
theorem ok23 : defB T 200 d23 f23 = true := by decide +kernel
theorem ok24 : defB T 200 d24 f24 = true := by decide +kernel
theorem ok25 : defB T 200 d25 f25 = true := by decide +kernel
theorem ok26 : defB T 200 d26 f26 = true := by decide +kernel
theorem ok27 : defB T 200 d27 f27 = true := by decide +kernel
theorem ok28 : defB T 200 d28 f28 = true := by decide +kernel
theorem ok29 : defB T 200 d29 f29 = true := by decide +kernel
theorem ok (i : Nat) (d : DT) (F : Fn) (h1 : T.ds[i]? = some d) (h2 : T.fns[i]? = some F) : defB T 200 d F = true := by
  match i, h1, h2 with
  | 0, h1, h2 => cases h1; cases h2; exact ok0
  | 1, h1, h2 => cases h1; cases h2; exact ok1
  | 2, h1, h2 => cases h1; cases h2; exact ok2
  | 3, h1, h2 => cases h1; cases h2; exact ok3
  | 4, h1, h2 => cases h1; cases h2; exact ok4
  | 5, h1, h2 => cases h1; cases h2; exact ok5
  | 6, h1, h2 => cases h1; cases h2; exact ok6
  | 7, h1, h2 => cases h1; cases h2; exact ok7
  | 8, h1, h2 => cases h1; cases h2; exact ok8
  | 9, h1, h2 => cases h1; cases h2; exact ok9
  | 10, h1, h2 => cases h1; cases h2; exact ok10
  | 11, h1, h2 => cases h1; cases h2; exact ok11
  | 12, h1, h2 => cases h1; cases h2; exact ok12
  | 13, h1, h2 => cases h1; cases h2; exact ok13
  | 14, h1, h2 => cases h1; cases h2; exact ok14
  | 15, h1, h2 => cases h1; cases h2; exact ok15
  | 16, h1, h2 => cases h1; cases h2; exact ok16
  | 17, h1, h2 => cases h1; cases h2; exact ok17
  | 18, h1, h2 => cases h1; cases h2; exact ok18
  | 19, h1, h2 => cases h1; cases h2; exact ok19
  | 20, h1, h2 => cases h1; cases h2; exact ok20
  | 21, h1, h2 => cases h1; cases h2; exact ok21
  | 22, h1, h2 => cases h1; cases h2; exact ok22
  | 23, h1, h2 => cases h1; cases h2; exact ok23
  | 24, h1, h2 => cases h1; cases h2; exact ok24
  | 25, h1, h2 => cases h1; cases h2; exact ok25
  | 26, h1, h2 => cases h1; cases h2; exact ok26
  | 27, h1, h2 => cases h1; cases h2; exact ok27
  | 28, h1, h2 => cases h1; cases h2; exact ok28
  | 29, h1, h2 => cases h1; cases h2; exact ok29
  | n + 30, h1, _ => cases h1
theorem b0 : BindOk d0 := fun _ _ _ _ _ _ us hl => match us, hl with | [_], _ => rfl
theorem b1 : BindOk d1 := fun _ _ _ _ _ _ us hl => match us, hl with | [_, _], _ => rfl
theorem b2 : BindOk d2 := fun _ _ _ _ _ _ us hl => match us, hl with | [_], _ => rfl
theorem b3 : BindOk d3 := fun _ _ _ _ _ _ us hl => match us, hl with | [_], _ => rfl
theorem b4 : BindOk d4 := fun _ _ _ _ _ _ us hl => match us, hl with | [_], _ => rfl
theorem b5 : BindOk d5 := fun _ _ _ _ _ _ us hl => match us, hl with | [_, _], _ => rfl
theorem b6 : BindOk d6 := fun _ _ _ _ _ _ us hl => match us, hl with | [_], _ => rfl
theorem b7 : BindOk d7 := fun _ _ _ _ _ _ us hl => match us, hl with | [_, _], _ => rfl
theorem b8 : BindOk d8 := fun _ _ _ _ _ _ us hl => match us, hl with | [_], _ => rfl
theorem b9 : BindOk d9 := fun _ _ _ _ _ _ us hl => match us, hl with | [_], _ => rfl
theorem b10 : BindOk d10 := fun _ _ _ _ _ _ us hl => match us, hl with | [_], _ => rfl
theorem b11 : BindOk d11 := fun _ _ _ _ _ _ us hl => match us, hl with | [_, _], _ => rfl
theorem b12 : BindOk d12 := fun _ _ _ _ _ _ us hl => match us, hl with | [_, _], _ => rfl
theorem b13 : BindOk d13 := fun _ _ _ _ _ _ us hl => match us, hl with | [_], _ => rfl
theorem b14 : BindOk d14 := fun _ _ _ _ _ _ us hl => match us, hl with | [_, _], _ => rfl
theorem b15 : BindOk d15 := fun _ _ _ _ _ _ us hl => match us, hl with | [_, _], _ => rfl
theorem b16 : BindOk d16 := fun _ _ _ _ _ _ us hl => match us, hl with | [_], _ => rfl
theorem b17 : BindOk d17 := fun _ _ _ _ _ _ us hl => match us, hl with | [_], _ => rfl
theorem b18 : BindOk d18 := fun _ _ _ _ _ _ us hl => match us, hl with | [], _ => rfl
theorem b19 : BindOk d19 := fun _ _ _ _ _ _ us hl => match us, hl with | [_], _ => rfl
theorem b20 : BindOk d20 := fun _ _ _ _ _ _ us hl => match us, hl with | [_], _ => rfl
theorem b21 : BindOk d21 := fun _ _ _ _ _ _ us hl => match us, hl with | [_, _, _], _ => rfl
theorem b22 : BindOk d22 := fun _ _ _ _ _ _ us hl => match us, hl with | [_, _, _], _ => rfl
theorem b23 : BindOk d23 := fun _ _ _ _ _ _ us hl => match us, hl with | [_], _ => rfl
theorem b24 : BindOk d24 := fun _ _ _ _ _ _ us hl => match us, hl with | [_, _, _], _ => rfl
theorem b25 : BindOk d25 := fun _ _ _ _ _ _ us hl => match us, hl with | [_], _ => rfl
theorem b26 : BindOk d26 := fun _ _ _ _ _ _ us hl => match us, hl with | [_, _], _ => rfl
theorem b27 : BindOk d27 := fun _ _ _ _ _ _ us hl => match us, hl with | [_], _ => rfl
theorem b28 : BindOk d28 := fun _ _ _ _ _ _ us hl => match us, hl with | [_], _ => rfl
theorem b29 : BindOk d29 := fun _ _ _ _ _ _ us hl => match us, hl with | [_], _ => rfl
theorem bind : ∀ d ∈ T.ds, BindOk d := List.forall_mem_cons.mpr ⟨b0, List.forall_mem_cons.mpr ⟨b1, List.forall_mem_cons.mpr ⟨b2, List.forall_mem_cons.mpr ⟨b3, List.forall_mem_cons.mpr ⟨b4, List.forall_mem_cons.mpr ⟨b5, List.forall_mem_cons.mpr ⟨b6, List.forall_mem_cons.mpr ⟨b7, List.forall_mem_cons.mpr ⟨b8, List.forall_mem_cons.mpr ⟨b9, List.forall_mem_cons.mpr ⟨b10, List.forall_mem_cons.mpr ⟨b11, List.forall_mem_cons.mpr ⟨b12, List.forall_mem_cons.mpr ⟨b13, List.forall_mem_cons.mpr ⟨b14, List.forall_mem_cons.mpr ⟨b15, List.forall_mem_cons.mpr ⟨b16, List.forall_mem_cons.mpr ⟨b17, List.forall_mem_cons.mpr ⟨b18, List.forall_mem_cons.mpr ⟨b19, List.forall_mem_cons.mpr ⟨b20, List.forall_mem_cons.mpr ⟨b21, List.forall_mem_cons.mpr ⟨b22, List.forall_mem_cons.mpr ⟨b23, List.forall_mem_cons.mpr ⟨b24, List.forall_mem_cons.mpr ⟨b25, List.forall_mem_cons.mpr ⟨b26, List.forall_mem_cons.mpr ⟨b27, List.forall_mem_cons.mpr ⟨b28, List.forall_mem_cons.mpr ⟨b29, fun _ h => by cases h⟩⟩⟩⟩⟩⟩⟩⟩⟩⟩⟩⟩⟩⟩⟩⟩⟩⟩⟩⟩⟩⟩⟩⟩⟩⟩⟩⟩⟩⟩
end K14
end

section
set_option Elab.async false
set_option linter.all false
set_option maxRecDepth 100000
set_option maxHeartbeats 1000000
namespace K14
open PySem PySem.Spec PyProof.Rows L2 PD
local macro_rules | `(tactic| walk_at "ev") => `(tactic| simp only [↓wE_lockd, ↓wE_sdf, ↓wE_var, ↓wE_bor, ↓wE_non, ↓wE_nop, ↓wE_bl, ↓wE_int, ↓wE_str, ↓wE_glo, ↓wE_tup, ↓wE_lst, ↓wE_dct, ↓wE_bin, ↓wE_neg, ↓wE_cmp, ↓wE_chn, ↓wE_nt, ↓wE_an, ↓wE_orr, ↓wE_ite, ↓wE_ix, ↓wE_sl, ↓wE_rev, ↓wE_cal, ↓wE_b1, ↓wE_b2, ↓wE_isi, ↓wE_m0, ↓wE_m1, ↓wE_mm0, ↓wE_mm1, ↓wE_cmpr, ↓wE_gin, ↓wE_gget, ↓wEs_nil, ↓wEs_cons, ↓wI_ex, ↓wI_rng1, ↓wI_rng2, ↓wI_zip, ↓wI_enum, ↓wS_asg, ↓wS_own, ↓wS_par, ↓wS_setix, ↓wS_expr, ↓wS_ite, ↓wS_whl, ↓wS_fr, ↓wS_ret, ↓wS_retN, ↓wS_retO, ↓wS_pass, ↓wS_brk, ↓wS_cnt, ↓wSs_nil, ↓wSs_cons, ↓q_fx_lockd, ↓q_fx_sdf, ↓q_fx_var, ↓q_fx_non, ↓q_fx_bl, ↓q_fx_int, ↓q_fx_str, ↓q_fx_nop, ↓q_fx_glo, ↓q_fx_tup, ↓q_fx_lst, ↓q_fx_dct, ↓q_fx_bin, ↓q_fx_neg, ↓q_fx_cmp, ↓q_fx_chn, ↓q_fx_nt, ↓q_fx_an, ↓q_fx_orr, ↓q_fx_ite, ↓q_fx_ix, ↓q_fx_sl, ↓q_fx_rev, ↓q_fx_cal, ↓q_fx_b1, ↓q_fx_b2, ↓q_fx_isi, ↓q_fx_m0, ↓q_fx_m1, ↓q_fx_m2, ↓q_fx_mm0, ↓q_fx_mm1, ↓q_fx_cmpr, ↓q_fx_gin, ↓q_fx_gget, ↓q_fx_bor, ↓q_fxs_nil, ↓q_fxs_cons, ↓q_lk_z, ↓q_lk_s, ↓q_wO_s, ↓q_ixO_nop, ↓q_ixO_lockd, ↓q_ixO_sdf, ↓q_ixO_var, ↓q_ixO_non, ↓q_ixO_bl, ↓q_ixO_int, ↓q_ixO_str, ↓q_ixO_glo, ↓q_ixO_tup, ↓q_ixO_lst, ↓q_ixO_dct, ↓q_ixO_bin, ↓q_ixO_neg, ↓q_ixO_cmp, ↓q_ixO_chn, ↓q_ixO_nt, ↓q_ixO_an, ↓q_ixO_orr, ↓q_ixO_ite, ↓q_ixO_ix, ↓q_ixO_sl, ↓q_ixO_rev, ↓q_ixO_cal, ↓q_ixO_b1, ↓q_ixO_b2, ↓q_ixO_isi, ↓q_ixO_m0, ↓q_ixO_m1, ↓q_ixO_m2, ↓q_ixO_mm0, ↓q_ixO_mm1, ↓q_ixO_cmpr, ↓q_ixO_gin, ↓q_ixO_gget, ↓q_asgT_nm, ↓q_asgT_tp, ↓q_asgT_tl, ↓q_it_fz, ↓q_ix_fz, ↓q_ix_dct, ↓q_srt, ↓q_sst, ↓q_sdf, ↓q_dctO, ↓q_setAll_nil, ↓q_setAll_cons, ↓q_wT_non, ↓q_wT_bl, ↓q_wT_int, ↓q_wT_tup, ↓q_wT_lst, ↓q_wT_str, ↓q_wB_bl, ↓q_wInt_int, ↓q_bin_add, ↓q_bin_sub, ↓q_bin_mul, ↓q_bin_mod, ↓q_bin_fdiv, ↓q_bin_pow, ↓q_bin_adds, ↓q_bin_addt, ↓q_bin_addl, ↓q_neg_int, ↓q_cmp_lt, ↓q_cmp_le, ↓q_cmp_gt, ↓q_cmp_ge, ↓q_cmp_eq, ↓q_cmp_ne, ↓q_cmp_in, ↓q_cmp_nin, ↓q_cmp_is, ↓q_cmp_isn, ↓q_eq_int, ↓q_eq_str, ↓q_eq_tupn, ↓q_eq_ntup, ↓q_eq_lstn, ↓q_in_str, ↓q_ix_lst, ↓q_ix_tup, ↓q_ix_scr, ↓q_ix_str, ↓q_sl_tup, ↓q_sl_lst, ↓q_sl_scr, ↓q_sl_str, ↓q_rev_tup, ↓q_rev_lst, ↓q_rev_str, ↓q_len_lst, ↓q_len_tup, ↓q_len_scr, ↓q_len_str, ↓q_abs_int, ↓q_int_int, ↓q_int_bl, ↓q_str_int, ↓q_all_lst, ↓q_any_lst, ↓q_tup_lst, ↓q_tup_tup, ↓q_lst_tup, ↓q_lst_lst, ↓q_rep_any, ↓q_max_two, ↓q_min_two, ↓q_up_str, ↓q_split_str, ↓q_join_str, ↓q_strip_str, ↓q_index_lst, ↓q_app_lst, ↓q_ext_lst, ↓q_pop_lst, ↓q_ty_list, ↓q_ty_str, ↓q_ty_str2, ↓q_ty_str3, ↓q_ty_idx, ↓q_set_lst, ↓q_strO_str, ↓q_it_tup, ↓q_it_lst, ↓q_it_scr, ↓q_it_str, ↓q_zip_st, ↓q_zip_ll, ↓q_zip_tt, ↓q_enum_l, ↓q_enum_t, ↓q_isi_non, ↓q_isi_bl, ↓q_isi_int, ↓q_isi_str, ↓q_isi_tup, ↓q_isi_lst, ↓q_isi_dct, ↓q_at0, ↓q_at1, ↓q_at2, ↓q_at3, ↓q_ixn0, ↓q_ixn1, ↓q_ixn2, ↓q_ixn3, ↓q_ixn4, ↓q_ixn5, ↓q_ixn6, ↓q_ixn7, ↓q_lkn, ↓q_lkn0, ↓q_lk0, ↓q_lkS, ↓q_wipe_nil, ↓q_wipe_cons, ↓q_back_nil, ↓q_back_cons, ↓q_ty_int_int, ↓q_ty_int_str, ↓q_ty_int_bool, ↓q_ty_int_tuple, ↓q_ty_int_list, ↓q_ty_int_dict, ↓q_ty_str_int, ↓q_ty_str_str, ↓q_ty_str_bool, ↓q_ty_str_tuple, ↓q_ty_str_list, ↓q_ty_str_dict, ↓q_ty_bool_int, ↓q_ty_bool_str, ↓q_ty_bool_bool, ↓q_ty_bool_tuple, ↓q_ty_bool_list, ↓q_ty_bool_dict, ↓q_ty_tuple_int, ↓q_ty_tuple_str, ↓q_ty_tuple_bool, ↓q_ty_tuple_tuple, ↓q_ty_tuple_list, ↓q_ty_tuple_dict, ↓q_ty_list_int, ↓q_ty_list_str, ↓q_ty_list_bool, ↓q_ty_list_tuple, ↓q_ty_list_list, ↓q_ty_list_dict, ↓q_ty_dict_int, ↓q_ty_dict_str, ↓q_ty_dict_bool, ↓q_ty_dict_tuple, ↓q_ty_dict_list, ↓q_ty_dict_dict, ↓q_kvs, ↓q_fit0, ↓q_fit1, ↓q_fit2, ↓q_fit3, ↓q_fit4, ↓q_fit5, ↓q_fit6, ↓q_fit7, ↓q_fit8, ↓q_fit9, ↓q_fit10, ↓q_fit11, ↓q_fit12, ↓q_fit13, ↓q_fit14, ↓q_fit15, ↓q_fit16, ↓q_fit17, ↓q_fit18, ↓q_fit19, ↓q_fit20, ↓q_fit21, ↓q_fit22, ↓q_fit23, ↓q_fit24, ↓q_fit25, ↓q_fit26, ↓q_fit27, ↓q_fit28, ↓q_fit29, ↓q_fit30, ↓q_fit31, ↓q_fit32, ↓q_fit33, ↓q_fit34, ↓q_fit35, ↓q_fit36, ↓q_fit37, ↓q_fit38, ↓q_fit39, ↓q_fit40, ↓q_putIo, ↓q_cl_nil, ↓q_cl_bor, ↓q_pio_nil, ↓q_pio_bor, ↓q_cl_lockd, ↓q_pio_lockd, ↓q_cl_sdf, ↓q_pio_sdf, ↓q_cl_var, ↓q_pio_var, ↓q_cl_non, ↓q_pio_non, ↓q_cl_bl, ↓q_pio_bl, ↓q_cl_int, ↓q_pio_int, ↓q_cl_str, ↓q_pio_str, ↓q_cl_nop, ↓q_pio_nop, ↓q_cl_glo, ↓q_pio_glo, ↓q_cl_tup, ↓q_pio_tup, ↓q_cl_lst, ↓q_pio_lst, ↓q_cl_dct, ↓q_pio_dct, ↓q_cl_bin, ↓q_pio_bin, ↓q_cl_neg, ↓q_pio_neg, ↓q_cl_cmp, ↓q_pio_cmp, ↓q_cl_chn, ↓q_pio_chn, ↓q_cl_nt, ↓q_pio_nt, ↓q_cl_an, ↓q_pio_an, ↓q_cl_orr, ↓q_pio_orr, ↓q_cl_ite, ↓q_pio_ite, ↓q_cl_ix, ↓q_pio_ix, ↓q_cl_sl, ↓q_pio_sl, ↓q_cl_rev, ↓q_pio_rev, ↓q_cl_cal, ↓q_pio_cal, ↓q_cl_b1, ↓q_pio_b1, ↓q_cl_b2, ↓q_pio_b2, ↓q_cl_isi, ↓q_pio_isi, ↓q_cl_m0, ↓q_pio_m0, ↓q_cl_m1, ↓q_pio_m1, ↓q_cl_m2, ↓q_pio_m2, ↓q_cl_mm0, ↓q_pio_mm0, ↓q_cl_mm1, ↓q_pio_mm1, ↓q_cl_cmpr, ↓q_pio_cmpr, ↓q_cl_gin, ↓q_pio_gin, ↓q_cl_gget, ↓q_pio_gget, q_fx_lockd, q_fx_sdf, q_fx_var, q_fx_non, q_fx_bl, q_fx_int, q_fx_str, q_fx_nop, q_fx_glo, q_fx_tup, q_fx_lst, q_fx_dct, q_fx_bin, q_fx_neg, q_fx_cmp, q_fx_chn, q_fx_nt, q_fx_an, q_fx_orr, q_fx_ite, q_fx_ix, q_fx_sl, q_fx_rev, q_fx_cal, q_fx_b1, q_fx_b2, q_fx_isi, q_fx_m0, q_fx_m1, q_fx_m2, q_fx_mm0, q_fx_mm1, q_fx_cmpr, q_fx_gin, q_fx_gget, q_fx_bor, q_fxs_nil, q_fxs_cons, q_lk_z, q_lk_s, q_wO_s, q_ixO_nop, q_ixO_lockd, q_ixO_sdf, q_ixO_var, q_ixO_non, q_ixO_bl, q_ixO_int, q_ixO_str, q_ixO_glo, q_ixO_tup, q_ixO_lst, q_ixO_dct, q_ixO_bin, q_ixO_neg, q_ixO_cmp, q_ixO_chn, q_ixO_nt, q_ixO_an, q_ixO_orr, q_ixO_ite, q_ixO_ix, q_ixO_sl, q_ixO_rev, q_ixO_cal, q_ixO_b1, q_ixO_b2, q_ixO_isi, q_ixO_m0, q_ixO_m1, q_ixO_m2, q_ixO_mm0, q_ixO_mm1, q_ixO_cmpr, q_ixO_gin, q_ixO_gget, q_asgT_nm, q_asgT_tp, q_asgT_tl, q_it_fz, q_ix_fz, q_ix_dct, q_srt, q_sst, q_sdf, q_dctO, q_setAll_nil, q_setAll_cons, q_wT_non, q_wT_bl, q_wT_int, q_wT_tup, q_wT_lst, q_wT_str, q_wB_bl, q_wInt_int, q_bin_add, q_bin_sub, q_bin_mul, q_bin_mod, q_bin_fdiv, q_bin_pow, q_bin_adds, q_bin_addt, q_bin_addl, q_neg_int, q_cmp_lt, q_cmp_le, q_cmp_gt, q_cmp_ge, q_cmp_eq, q_cmp_ne, q_cmp_in, q_cmp_nin, q_cmp_is, q_cmp_isn, q_eq_int, q_eq_str, q_eq_tupn, q_eq_ntup, q_eq_lstn, q_in_str, q_ix_lst, q_ix_tup, q_ix_scr, q_ix_str, q_sl_tup, q_sl_lst, q_sl_scr, q_sl_str, q_rev_tup, q_rev_lst, q_rev_str, q_len_lst, q_len_tup, q_len_scr, q_len_str, q_abs_int, q_int_int, q_int_bl, q_str_int, q_all_lst, q_any_lst, q_tup_lst, q_tup_tup, q_lst_tup, q_lst_lst, q_rep_any, q_max_two, q_min_two, q_up_str, q_split_str, q_join_str, q_strip_str, q_index_lst, q_app_lst, q_ext_lst, q_pop_lst, q_ty_list, q_ty_str, q_ty_str2, q_ty_str3, q_ty_idx, q_set_lst, q_strO_str, q_it_tup, q_it_lst, q_it_scr, q_it_str, q_zip_st, q_zip_ll, q_zip_tt, q_enum_l, q_enum_t, q_isi_non, q_isi_bl, q_isi_int, q_isi_str, q_isi_tup, q_isi_lst, q_isi_dct, q_at0, q_at1, q_at2, q_at3, q_ixn0, q_ixn1, q_ixn2, q_ixn3, q_ixn4, q_ixn5, q_ixn6, q_ixn7, q_lkn, q_lkn0, q_lk0, q_lkS, q_wipe_nil, q_wipe_cons, q_back_nil, q_back_cons, q_ty_int_int, q_ty_int_str, q_ty_int_bool, q_ty_int_tuple, q_ty_int_list, q_ty_int_dict, q_ty_str_int, q_ty_str_str, q_ty_str_bool, q_ty_str_tuple, q_ty_str_list, q_ty_str_dict, q_ty_bool_int, q_ty_bool_str, q_ty_bool_bool, q_ty_bool_tuple, q_ty_bool_list, q_ty_bool_dict, q_ty_tuple_int, q_ty_tuple_str, q_ty_tuple_bool, q_ty_tuple_tuple, q_ty_tuple_list, q_ty_tuple_dict, q_ty_list_int, q_ty_list_str, q_ty_list_bool, q_ty_list_tuple, q_ty_list_list, q_ty_list_dict, q_ty_dict_int, q_ty_dict_str, q_ty_dict_bool, q_ty_dict_tuple, q_ty_dict_list, q_ty_dict_dict, q_kvs, q_fit0, q_fit1, q_fit2, q_fit3, q_fit4, q_fit5, q_fit6, q_fit7, q_fit8, q_fit9, q_fit10, q_fit11, q_fit12, q_fit13, q_fit14, q_fit15, q_fit16, q_fit17, q_fit18, q_fit19, q_fit20, q_fit21, q_fit22, q_fit23, q_fit24, q_fit25, q_fit26, q_fit27, q_fit28, q_fit29, q_fit30, q_fit31, q_fit32, q_fit33, q_fit34, q_fit35, q_fit36, q_fit37, q_fit38, q_fit39, q_fit40, q_putIo, q_cl_nil, q_cl_bor, q_pio_nil, q_pio_bor, q_cl_lockd, q_pio_lockd, q_cl_sdf, q_pio_sdf, q_cl_var, q_pio_var, q_cl_non, q_pio_non, q_cl_bl, q_pio_bl, q_cl_int, q_pio_int, q_cl_str, q_pio_str, q_cl_nop, q_pio_nop, q_cl_glo, q_pio_glo, q_cl_tup, q_pio_tup, q_cl_lst, q_pio_lst, q_cl_dct, q_pio_dct, q_cl_bin, q_pio_bin, q_cl_neg, q_pio_neg, q_cl_cmp, q_pio_cmp, q_cl_chn, q_pio_chn, q_cl_nt, q_pio_nt, q_cl_an, q_pio_an, q_cl_orr, q_pio_orr, q_cl_ite, q_pio_ite, q_cl_ix, q_pio_ix, q_cl_sl, q_pio_sl, q_cl_rev, q_pio_rev, q_cl_cal, q_pio_cal, q_cl_b1, q_pio_b1, q_cl_b2, q_pio_b2, q_cl_isi, q_pio_isi, q_cl_m0, q_pio_m0, q_cl_m1, q_pio_m1, q_cl_m2, q_pio_m2, q_cl_mm0, q_pio_mm0, q_cl_mm1, q_pio_mm1, q_cl_cmpr, q_pio_cmpr, q_cl_gin, q_pio_gin, q_cl_gget, q_pio_gget, List.set_cons_zero, List.set_cons_succ, List.length_cons, List.length_nil, List.map_cons, List.map_nil, List.replicate_succ, List.replicate_zero, List.cons_append, List.nil_append, List.take_succ_cons, List.take_zero, true_and, and_true, Bool.not_true, Bool.not_false, if_true, Bool.false_eq_true, if_false, cond_true, cond_false, List.isEmpty_cons, List.isEmpty_nil, Option.isNone_some, Bool.or_true, Bool.true_or, Bool.or_false, Bool.false_or, Bool.and_true, Bool.true_and, Bool.and_false, Bool.false_and, Nat.reduceAdd, Nat.reduceSub, Nat.reduceLT, Nat.reduceLeDiff, Nat.zero_add, Int.reduceLT, Int.reduceLE, reduceCtorEq, decide_eq_true_eq, Nat.lt_add_one, Nat.zero_lt_succ, *])
/-! K14L: the law -/
section
variable {n : Nat} {Q : D → PD.Env → Prop} {X : XQ} {dk : D}
theorem hD : T.fns[11]? = some (drawFn 11) := rfl
theorem hP : T.fns[12]? = some (pickFn 11) := rfl
theorem hM : T.fns[14]? = some (menuFn 11 12) := rfl
theorem hW : T.fns[16]? = some (waysFn 12) := rfl
theorem hR : T.fns[17]? = some partsFn := rfl
theorem hWs : T.fns[18]? = some wordsFn := rfl
theorem hI : T.fns[21]? = some (itemFn 12 11 16) := rfl
theorem hDe : T.fns[22]? = some (deedFn 12 21 17) := rfl
theorem hDk : T.fns[10]? = some (deckFn 2936 41 1 6364136223846793005 37) := rfl
theorem hE : T.fns[6]? = some (deedErrFn 5 5) := rfl
theorem hLE : T.fns[27]? = some (lDeedErrFn 18 17 26) := rfl
theorem hNd : T.fns[7]? = some (namedFn 5) := rfl
theorem hNs : T.fns[8]? = some (namesFn 7) := rfl
theorem hPr : T.fns[9]? = some (progFn 0 1 2 6 8) := rfl
theorem hLo : T.fns[19]? = some (lOldFn 17) := rfl
theorem hLn : T.fns[20]? = some (lNamesFn 19) := rfl
theorem hLp : T.fns[28]? = some (lProgFn 27 20) := rfl
def oddL : List D := [.non, .bl true, .bl false, .int 0, .int 1, .int 3, .int 4, .int (-1), .int (10 ^ Int.toNat 30), .str "", .str "p", .str "abc", .str "P", .str "a b", .str "aaaaaaaaa", .tup [], .lst [], .dct false [],
  .tup [.str "p"], .lst [.str "p", .int 0], .tup [.str "p", .int 0], .tup [.str "p", .str "abc"], .tup [.tup [], .tup [], .int 0], .tup [.str "p", .bl true], .tup [.str "p", .int 4], .str "d", .dct false [(.str "p", .int 0)], .str "c"]
theorem odd_gd : ∀ x ∈ oddL, Gd 130 2 x := by
  have wb : oddL.all (fun x => decide (wt x ≤ 130)) = true := by decide +kernel
  have ab : oddL.all asc = true := by decide +kernel
  have pb : ∀ x ∈ oddL, pln 2 x = true := by
    simp only [oddL, List.forall_mem_cons]
    simp [pln, plnL]
  exact fun x hx => ⟨of_decide_eq_true (List.all_eq_true.mp wb x hx), pb x hx, List.all_eq_true.mp ab x hx⟩
theorem odd_w (hn : 3 ≤ n) (h : IsDeck dk) (k : ∀ (x dk' : D), IsDeck dk' → Gd 130 2 x → Q x [some dk']) : wC (callF gl T.fns WF n 23 [dk]) Q X := by
  refine wC_callF (F := f23) rfl (by omega) rfl ?_
  unfold f23
  walk_at "ev"
  refine ⟨by decide, pick_lst hP hD (by omega) h (by decide) (by decide) fun x dk' hd hx => ?_⟩
  walk_at "ev"
  exact k _ _ hd (odd_gd x hx)
theorem gd_lst {W m : Nat} {xs : List D} (h : Gd W m (.tup xs)) : Gd W m (.lst xs) := by
  refine ⟨by have := h.w; simp only [wt] at this ⊢; exact this, ?_, h.a⟩
  have := h.p
  cases m with
  | zero => simp [pln] at this
  | succ m => simpa [pln] using this
theorem gd_sub {W W' m : Nat} {xs ys : List D} (h : Gd W m (.tup xs)) (hy : ∀ y ∈ ys, y ∈ xs) (hw : wtL ys + 3 ≤ W') : Gd W' m (.tup ys) := by
  refine ⟨by rw [wt]; omega, ?_, ?_⟩
  · have := h.p
    cases m with
    | zero => simp [pln] at this
    | succ m =>
      have p : plnL m xs = true := by simpa [pln] using this
      simp only [pln]
      exact plnL_all fun y hh => plnL_mem p (hy y hh)
  · have a : ascL xs = true := h.a
    exact ascL_all fun y hh => ascL_mem a (hy y hh)
theorem gd_strs {W m : Nat} {s t : Str} (h : Gd W m (.str s)) (hl : t.cps.toList.length + 2 ≤ W + 1) (hc : ∀ c ∈ t.cps.toList, c < 128) : Gd (W + 1) m (.str t) := by
  refine ⟨by rw [wt, str_size]; omega, by simp [pln], ?_⟩
  show ascS t = true
  exact List.all_eq_true.mpr fun c hh => decide_eq_true (hc c hh)
theorem asc_c {W m : Nat} {s : Str} (h : Gd W m (.str s)) : ∀ c ∈ s.cps.toList, c < 128 := fun c hh => by
  have : ascS s = true := h.a
  exact of_decide_eq_true (List.all_eq_true.mp this c hh)
def upOk : Bool := (List.range 128).all fun c => match Unicode.upperOf c with | [d] => decide (d < 128) | _ => false
theorem upper_one {c : Nat} (h : c < 128) : ∃ d, Unicode.upperOf c = [d] ∧ d < 128 := by
  have q : upOk = true := by decide +kernel
  have := List.all_eq_true.mp q c (List.mem_range.mpr h)
  split at this
  · rename_i d e
    exact ⟨d, e, of_decide_eq_true this⟩
  · cases this
theorem upper_list : ∀ (L : List Nat) (k : Nat), (∀ c ∈ L, c < 128) → (L.flatMap Unicode.upperOf).length = L.length ∧ ∀ c ∈ L.flatMap Unicode.upperOf, c < 128
  | [], _, _ => ⟨rfl, fun _ h => by cases h⟩
  | a :: L, k, h => by
    obtain ⟨d, e, hd⟩ := upper_one (h a (List.mem_cons_self ..))
    obtain ⟨h1, h2⟩ := upper_list L k fun c hc => h c (List.mem_cons_of_mem _ hc)
    rw [List.flatMap_cons, e]
    refine ⟨by simp [h1], fun c hc => ?_⟩
    rcases List.mem_append.mp hc with q | q
    · rw [List.mem_singleton] at q; omega
    · exact h2 c q
theorem upper_cps (s : Str) : (Txt.upper s).cps.toList = s.cps.toList.flatMap Unicode.upperOf := by
  show ((s.cps.mapIdx fun _ c => (Unicode.upperOf c).toArray).flatten).toList = _
  rw [Array.toList_flatten, Array.toList_mapIdx]
  generalize s.cps.toList = L
  have go : ∀ (L : List Nat), (List.map Array.toList (List.mapIdx (fun _ c => (Unicode.upperOf c).toArray) L)).flatten = L.flatMap Unicode.upperOf := by
    intro L
    induction L with
    | nil => rfl
    | cons a L ih =>
      rw [List.mapIdx_cons, List.map_cons, List.flatten_cons, List.flatMap_cons]
      have : (List.mapIdx (fun i => (fun (_ : Nat) c => (Unicode.upperOf c).toArray) (i + 1)) L) = List.mapIdx (fun _ c => (Unicode.upperOf c).toArray) L := rfl
      rw [this, ih]
  exact go L
theorem upper_asc (s : Str) (h : ∀ c ∈ s.cps.toList, c < 128) : (Txt.upper s).cps.toList.length = s.cps.toList.length ∧ ∀ c ∈ (Txt.upper s).cps.toList, c < 128 := by
  rw [upper_cps]
  exact upper_list _ 0 h
theorem cutD_to {xs : List D} {i : Int} (h : 0 ≤ i) : PD.cutD xs none (some i) = xs.take i.toNat := by
  unfold PD.cutD
  rw [sIx_nn h, HT.sIx_none, List.drop_zero, Nat.sub_zero]
  by_cases h' : i.toNat ≤ xs.length
  · rw [Nat.min_eq_left h']
  · rw [Nat.min_eq_right (by omega), List.take_length, List.take_of_length_le (by omega)]
theorem cutD_fr {xs : List D} {i : Int} (h : 0 ≤ i) : PD.cutD xs (some i) none = xs.drop i.toNat := by
  unfold PD.cutD
  rw [sIx_nn h, HT.sIx_none]
  by_cases h' : i.toNat ≤ xs.length
  · rw [Nat.min_eq_left h']
    exact List.take_of_length_le (by rw [List.length_drop]; omega)
  · rw [Nat.min_eq_right (by omega), List.drop_length, List.drop_eq_nil_of_le (by omega)]
    simp
theorem wtL_split (xs : List D) (n : Nat) : wtL (xs.take n) + wtL (xs.drop n) = wtL xs := by
  rw [← wtL_append, List.take_append_drop]
theorem gd_int {W m : Nat} {i j : Int} (h : Gd W m (.int i)) (hj : j.natAbs ≤ i.natAbs + 1) : Gd (W + 2) m (.int j) := by
  refine ⟨?_, by simp [pln], rfl⟩
  have := h.w
  simp only [wt] at this ⊢
  have hl : j.natAbs.log2 ≤ i.natAbs.log2 + 1 := by
    by_cases z : j.natAbs = 0
    · rw [z]; exact Nat.zero_le _
    · have : j.natAbs < 2 ^ (i.natAbs.log2 + 1 + 1) := by
        have h1 : i.natAbs < 2 ^ (i.natAbs.log2 + 1) := Nat.lt_log2_self
        rw [Nat.pow_succ]
        have : 1 ≤ 2 ^ (i.natAbs.log2 + 1) := Nat.one_le_two_pow
        omega
      have := (Nat.log2_lt z).mpr this
      omega
  omega
theorem asc_toString (i : Int) : asc (.str (toString i : String)) = true := by
  show ascS _ = true
  unfold ascS
  rw [signs_ofString, List.all_eq_true]
  intro c hc
  obtain ⟨x, hx, rfl⟩ := List.mem_map.mp hc
  exact decide_eq_true (int_ascii i x hx)
theorem gb_sub {W W' B m : Nat} {xs ys : List D} (h : Gb W B m (.tup xs)) (hy : ∀ y ∈ ys, y ∈ xs) (hw : wtL ys + 3 ≤ W') : Gb W' B m (.tup ys) := ⟨gd_sub h.g hy hw, ibL_all fun y hh => ibL_mem h.i y (hy y hh)⟩
theorem gb_lst {W B m : Nat} {xs : List D} (h : Gb W B m (.tup xs)) : Gb W B m (.lst xs) := ⟨gd_lst h.g, h.i⟩
theorem gb_int {W B m : Nat} {i j : Int} (h : Gb W B m (.int i)) (hj : j.natAbs ≤ i.natAbs + 1) : Gb (W + 2) (B + 2) m (.int j) := by
  refine ⟨gd_int h.g hj, ?_⟩
  have hi := of_decide_eq_true h.i
  refine decide_eq_true ?_
  have hl : j.natAbs.log2 ≤ i.natAbs.log2 + 1 := by
    by_cases z : j.natAbs = 0
    · rw [z]; exact Nat.zero_le _
    · have : j.natAbs < 2 ^ (i.natAbs.log2 + 1 + 1) := by
        have h1 : i.natAbs < 2 ^ (i.natAbs.log2 + 1) := Nat.lt_log2_self
        rw [Nat.pow_succ]
        have : 1 ≤ 2 ^ (i.natAbs.log2 + 1) := Nat.one_le_two_pow
        omega
      have := (Nat.log2_lt z).mpr this
      omega
  omega
theorem rest_w {W B m : Nat} {v dp : D} (hn : 4 ≤ n) (h : IsDeck dk) (hv : Gb W B m v) (hW : W ≤ 100000) (hB : B ≤ 1900) (hB0 : 130 ≤ B) (hm : 1 ≤ m)
    (k : ∀ (x dk' : D) (io : PD.Env), IsDeck dk' → Gb (2 * W + 130) (B + 2) (m + 1) x → Q x (some dk' :: io)) :
    wSs gl (callF gl T.fns WF n) WF (match f24.body with | .cons _ r => r | r => r) [some dk, some v, some dp, none, none] (fun _ => False) (fun d ρ => Q d (ρ.take 3)) (fun _ => False) (fun _ => False) (fun c fs ρ => X c fs (ρ.take 3)) := by
  unfold f24
  have odd : ∀ x, Gd 130 2 x → Gb (2 * W + 130) (B + 2) (m + 1) x := fun x hx => hx.gb.mono (by omega) (by omega) (by omega)
  cases v with
  | tup xs =>
    have hw := hv.g.w
    rw [wt] at hw
    have hlen : xs.length ≤ 100000 := by
      have : ∀ ys : List D, ys.length ≤ wtL ys := fun ys => by
        induction ys with
        | nil => exact Nat.zero_le _
        | cons y ys ih => rw [wtL, List.length_cons]; omega
      have := this xs
      omega
    walk_at "ev"
    refine draw_w hD (by omega) h (by omega) (by omega) fun a dk1 hd1 a0 a1 => ?_
    have c1 : PD.cutD xs none (some a) = xs.take a.toNat := cutD_to a0
    have c2 : PD.cutD xs (some (a + 1)) none = xs.drop (a.toNat + 1) := by rw [cutD_fr (by omega)]; congr 1; omega
    have c3 : PD.cutD xs none (some 1) = xs.take 1 := cutD_to (by decide)
    have c4 : PD.cutD xs (some a) none = xs.drop a.toNat := cutD_fr a0
    have c5 : PD.cutD xs (some 1) none = xs.drop 1 := cutD_fr (by decide)
    walk_at "ev"
    simp only [List.length_append, List.length_take, List.length_drop]
    refine ⟨fitn_of (by omega), fitn_of (by omega), fitn_of (by omega), fitn_of (by omega), ?_⟩
    refine odd_w (by omega) hd1 fun y dk2 hd2 hy => ?_
    walk_at "ev"
    refine pick_lst hP hD (by omega) hd2 (by simp only [List.length_cons, List.length_nil]; omega) (by simp only [List.length_cons, List.length_nil]; omega) fun x dk3 hd3 hx => ?_
    walk_at "ev"
    refine k _ _ _ hd3 ?_
    have w1 := wtL_split xs a.toNat
    have w2 := wtL_take xs 1
    have w3 := wtL_drop xs (a.toNat + 1)
    have w4 := wtL_drop xs 1
    have w5 := wtL_take xs a.toNat
    have mt : ∀ {k : Nat} {z : D}, z ∈ xs.take k → z ∈ xs := List.mem_of_mem_take
    have md : ∀ {k : Nat} {z : D}, z ∈ xs.drop k → z ∈ xs := List.mem_of_mem_drop
    have all : ∀ x ∈ [D.lst xs, D.tup (xs.take a.toNat ++ xs.drop (a.toNat + 1)), D.tup (xs.take a.toNat ++ xs.take 1 ++ xs.drop a.toNat), D.tup xs.reverse, D.tup (xs.drop 1 ++ xs.take 1), y], Gb (2 * W + 130) (B + 2) (m + 1) x := by
      simp only [List.forall_mem_cons]
      refine ⟨(gb_lst hv).mono (by omega) (by omega) (by omega), ?_, ?_, ?_, ?_, odd y hy, fun _ h => by cases h⟩
      · exact (gb_sub (W' := 2 * W + 130) hv (fun z hz => (List.mem_append.mp hz).elim mt md) (by rw [wtL_append]; omega)).mono (by omega) (by omega) (by omega)
      · exact (gb_sub (W' := 2 * W + 130) hv (fun z hz => (List.mem_append.mp hz).elim (fun q => (List.mem_append.mp q).elim mt mt) md) (by rw [wtL_append, wtL_append]; omega)).mono (by omega) (by omega) (by omega)
      · exact (gb_sub (W' := 2 * W + 130) hv (fun z hz => List.mem_reverse.mp hz) (by rw [wtL_rev]; omega)).mono (by omega) (by omega) (by omega)
      · exact (gb_sub (W' := 2 * W + 130) hv (fun z hz => (List.mem_append.mp hz).elim md mt) (by rw [wtL_append]; omega)).mono (by omega) (by omega) (by omega)
    exact all x hx
  | str s =>
    have hw := hv.g.w
    rw [wt] at hw
    have hs : s.length = s.cps.toList.length := str_size s
    have hf : fits s = true := fits_of (by omega)
    have ha := asc_c hv.g
    have e1 : ("a" : Str).length = 1 := by decide
    have e2 : ("\n" : Str).length = 1 := by decide
    have e3 : ("z" : Str).length = 1 := by decide
    walk_at "ev"
    refine ⟨fitn_of (by omega), by omega, fitn_of (by omega), fitn_of (by omega), ?_⟩
    refine odd_w (by omega) h fun y dk2 hd2 hy => ?_
    walk_at "ev"
    refine pick_lst hP hD (by omega) hd2 (by simp only [List.length_cons, List.length_nil]; omega) (by simp only [List.length_cons, List.length_nil]; omega) fun x dk3 hd3 hx => ?_
    walk_at "ev"
    refine k _ _ _ hd3 ?_
    have ca : ("a" : Str).cps.toList = [97] := by decide +kernel
    have cn : ("\n" : Str).cps.toList = [10] := by decide +kernel
    have cz : ("z" : Str).cps.toList = [122] := by decide +kernel
    have up := upper_asc s ha
    have one : pln (m + 1) (.lst [.str s]) = true ∧ pln (m + 1) (.tup [.str s]) = true := by simp [pln, plnL]
    have g : ∀ t : Str, t.cps.toList.length + 2 ≤ W + 1 → (∀ c ∈ t.cps.toList, c < 128) → Gb (2 * W + 130) (B + 2) (m + 1) (.str t) := fun t h1 h2 => ⟨(gd_strs hv.g h1 h2).mono (by omega) (by omega), rfl⟩
    have all : ∀ x ∈ [D.str (s ++ "a"), D.str (cutS s (some 1) none), D.str (Txt.upper s), D.str (s ++ "\n"), D.lst [D.str s], D.tup [D.str s], D.str ⟨s.cps.toList.reverse.toArray⟩, D.str ("z" ++ s), y], Gb (2 * W + 130) (B + 2) (m + 1) x := by
      simp only [List.forall_mem_cons]
      refine ⟨g _ ?_ ?_, g _ ?_ ?_, g _ ?_ up.2, g _ ?_ ?_, ⟨⟨?_, one.1, ?_⟩, rfl⟩, ⟨⟨?_, one.2, ?_⟩, rfl⟩, g _ ?_ ?_, g _ ?_ ?_, odd y hy, fun _ h => by cases h⟩
      · rw [app_cps, ca, List.length_append, List.length_singleton]; omega
      · intro c hc
        rw [app_cps, ca] at hc
        rcases List.mem_append.mp hc with q | q
        · exact ha c q
        · rw [List.mem_singleton] at q; omega
      · rw [cutS_from (by decide), List.length_drop]; omega
      · intro c hc
        rw [cutS_from (by decide)] at hc
        exact ha c (List.mem_of_mem_drop hc)
      · rw [up.1]; omega
      · rw [app_cps, cn, List.length_append, List.length_singleton]; omega
      · intro c hc
        rw [app_cps, cn] at hc
        rcases List.mem_append.mp hc with q | q
        · exact ha c q
        · rw [List.mem_singleton] at q; omega
      · simp only [wt, wtL]; omega
      · have := hv.g.a
        simp [asc, ascL] at this ⊢
        exact this
      · simp only [wt, wtL]; omega
      · have := hv.g.a
        simp [asc, ascL] at this ⊢
        exact this
      · show (s.cps.toList.reverse).length + 2 ≤ _
        rw [List.length_reverse]; omega
      · intro c hc
        exact ha c (List.mem_reverse.mp hc)
      · rw [app_cps, cz, List.length_append, List.length_singleton]; omega
      · intro c hc
        rw [app_cps, cz] at hc
        rcases List.mem_append.mp hc with q | q
        · rw [List.mem_singleton] at q; omega
        · exact ha c q
    exact all x hx
  | int i =>
    have hw := hv.g.w
    simp only [wt] at hw
    have hlog := of_decide_eq_true hv.i
    walk_at "ev"
    refine ⟨by omega, odd_w (by omega) h fun y dk2 hd2 hy => ?_⟩
    walk_at "ev"
    refine pick_lst hP hD (by omega) hd2 (by simp only [List.length_cons, List.length_nil]; omega) (by simp only [List.length_cons, List.length_nil]; omega) fun x dk3 hd3 hx => ?_
    walk_at "ev"
    refine k _ _ _ hd3 ?_
    have g : ∀ j : Int, j.natAbs ≤ i.natAbs + 1 → Gb (2 * W + 130) (B + 2) (m + 1) (.int j) := fun j hj => (gb_int hv hj).mono (by omega) (by omega) (by omega)
    have all : ∀ x ∈ [D.int (i + 1), D.int (i - 1), D.int (0 - i), D.bl (decide (i = 1)), D.str (toString i), y], Gb (2 * W + 130) (B + 2) (m + 1) x := by
      simp only [List.forall_mem_cons]
      refine ⟨g _ (by omega), g _ (by omega), g _ (by omega), ⟨⟨by simp only [wt]; omega, by simp [pln], rfl⟩, rfl⟩, ⟨⟨?_, by simp [pln], ?_⟩, rfl⟩, odd y hy, fun _ h => by cases h⟩
      · simp only [wt]
        have := int_text_length_le (a := i) (k := i.natAbs.log2 + 1) (by omega) (by omega)
        have e : ((toString i : String) : Str).length = (toString i).length := PySem.ofString_length _
        rw [e]
        omega
      · exact asc_toString i
    exact all x hx
  | fz _ => have := hv.g.p; cases m <;> simp [pln] at this
  | scr _ => have := hv.g.p; cases m <;> simp [pln] at this
  | obj _ _ => have := hv.g.p; cases m <;> simp [pln] at this
  | _ =>
    walk_at "ev"
    refine odd_w (by omega) h fun x dk' hd hx => ?_
    walk_at "ev"
    all_goals exact k _ _ _ hd (odd x hx)
theorem first19 {cf : Nat → List D → C} {N Bk Ct : PD.Env → Prop} {Tq : D → PD.Env → Prop} {W m : Nat} {v : D} (hv : Gd W m v) (hW : W ≤ 100000) (hN : N [some dk, some v, some (.int 0), none, none]) :
    wS gl cf WF (match f24.body with | .cons s _ => s | _ => .pass) [some dk, some v, some (.int 0), none, none] N Tq Bk Ct X := by
  unfold f24
  have hp := hv.p
  cases v with
  | tup xs =>
    cases xs with
    | nil => walk_at "ev"
    | cons x xs => walk_at "ev"
  | fz _ => cases m <;> simp [pln] at hp
  | scr _ => cases m <;> simp [pln] at hp
  | obj _ _ => cases m <;> simp [pln] at hp
  | _ => walk_at "ev"
theorem sp0_w {W B m : Nat} {v : D} (hn : 5 ≤ n) (h : IsDeck dk) (hv : Gb W B m v) (hW : W ≤ 100000) (hB : B ≤ 1900) (hB0 : 130 ≤ B) (hm : 1 ≤ m)
    (k : ∀ (x dk' : D) (io : PD.Env), IsDeck dk' → Gb (2 * W + 130) (B + 2) (m + 1) x → Q x (some dk' :: io)) : wC (callF gl T.fns WF n 24 [dk, v, .int 0]) Q X := by
  refine wC_callF (F := f24) rfl (by omega) rfl ?_
  have r := rest_w (n := n - 1) (dp := .int 0) (Q := Q) (X := X) (by omega) h hv hW hB hB0 hm k
  exact wSs_cons.symm ▸ first19 hv.g hW r
theorem atI_some {xs : List D} {x : Int} (h0 : 0 ≤ x) (h1 : x < xs.length) : ∃ y, xs[x.toNat]? = some y ∧ atI xs x = some y := by
  unfold atI ixN
  rw [if_pos h0, if_pos h1]
  have : x.toNat < xs.length := by omega
  exact ⟨xs[x.toNat], by simp [this], by simp [this]⟩
theorem first19b {Wr m : Nat} {N Bk Ct : PD.Env → Prop} {W B : Nat} {xs : List D} (hn : 5 ≤ n) (h : IsDeck dk) (hv : Gb W B (m + 1) (.tup xs)) (hW : W ≤ 30000) (hB : B ≤ 1900) (hB0 : 130 ≤ B) (hm : 1 ≤ m) (hne : xs ≠ [])
    (k : ∀ (x dk' : D) (io : PD.Env), IsDeck dk' → Gb (3 * W + 140) (B + 2) (m + 2) x → Q x (some dk' :: io)) (hN : ∀ dk', IsDeck dk' → N [some dk', some (.tup xs), some (.int 1), none, none]) :
    wS gl (callF gl T.fns WF n) WF (match f24.body with | .cons s _ => s | _ => .pass) [some dk, some (.tup xs), some (.int 1), none, none] N (fun d ρ => Q d (ρ.take 3)) Bk Ct X := by
  unfold f24
  have hw := hv.g.w
  rw [wt] at hw
  have hlen : xs.length ≤ 100000 := by
    have : ∀ ys : List D, ys.length ≤ wtL ys := fun ys => by
      induction ys with
      | nil => exact Nat.zero_le _
      | cons y ys ih => rw [wtL, List.length_cons]; omega
    have := this xs
    omega
  have hl1 : 1 ≤ xs.length := by
    cases xs with
    | nil => exact (hne rfl).elim
    | cons _ _ => simp
  have hemp : xs.isEmpty = false := by
    cases xs with
    | nil => exact (hne rfl).elim
    | cons _ _ => rfl
  walk_at "ev"
  refine draw_w hD (by omega) h (by decide) (by decide) fun b dk1 hd1 b0 b1 => ?_
  walk_at "ev"
  split
  · refine draw_w hD (by omega) hd1 (by omega) (by omega) fun a dk2 hd2 a0 a1 => ?_
    obtain ⟨y, hy, ey⟩ := atI_some a0 a1
    have hym := List.mem_of_getElem? hy
    have gy : Gb W B m y := hv.item hym
    have c1 : PD.cutD xs none (some a) = xs.take a.toNat := cutD_to a0
    have c2 : PD.cutD xs (some (a + 1)) none = xs.drop (a.toNat + 1) := by rw [cutD_fr (by omega)]; congr 1; omega
    walk_at "ev"
    refine sp0_w (by omega) hd2 gy (by omega) hB hB0 hm fun z dk3 io hd3 gz => ?_
    walk_at "ev"
    simp only [List.length_append, List.length_take, List.length_drop, List.length_cons, List.length_nil]
    refine ⟨fitn_of (by omega), fitn_of (by omega), ?_⟩
    refine k _ _ _ hd3 ?_
    have w3 := wtL_drop xs (a.toNat + 1)
    have w5 := wtL_split xs a.toNat
    have w6 : wtL (xs.drop (a.toNat + 1)) ≤ wtL (xs.drop a.toNat) := by
      have : xs.drop (a.toNat + 1) = (xs.drop a.toNat).drop 1 := by rw [List.drop_drop]
      rw [this]
      exact wtL_drop _ 1
    have hz := gz.g.w
    have hp : plnL m xs = true := by have := hv.g.p; simpa [pln] using this
    have hib : ibL (B + 2) (xs.take a.toNat ++ [z] ++ xs.drop (a.toNat + 1)) = true := by
      refine ibL_all fun q hq => ?_
      rcases List.mem_append.mp hq with hq | hq
      · rcases List.mem_append.mp hq with hq | hq
        · exact ib_mono (by omega) q (ibL_mem hv.i q (List.mem_of_mem_take hq))
        · rw [List.mem_singleton] at hq
          rw [hq]; exact gz.i
      · exact ib_mono (by omega) q (ibL_mem hv.i q (List.mem_of_mem_drop hq))
    refine ⟨⟨?_, ?_, ?_⟩, hib⟩
    · simp only [wt, wtL_append, wtL]; omega
    · simp only [pln]
      refine plnL_all fun q hq => ?_
      rcases List.mem_append.mp hq with hq | hq
      · rcases List.mem_append.mp hq with hq | hq
        · exact pln_mono m (m + 1) q (by omega) (plnL_mem hp (List.mem_of_mem_take hq))
        · rw [List.mem_singleton] at hq
          rw [hq]; exact gz.g.p
      · exact pln_mono m (m + 1) q (by omega) (plnL_mem hp (List.mem_of_mem_drop hq))
    · refine ascL_all fun q hq => ?_
      rcases List.mem_append.mp hq with hq | hq
      · rcases List.mem_append.mp hq with hq | hq
        · exact ascL_mem hv.g.a (List.mem_of_mem_take hq)
        · rw [List.mem_singleton] at hq
          rw [hq]; exact gz.g.a
      · exact ascL_mem hv.g.a (List.mem_of_mem_drop hq)
  · first | trivial | exact hN _ hd1
theorem first19c {cf : Nat → List D → C} {N Bk Ct : PD.Env → Prop} {Tq : D → PD.Env → Prop} {W m : Nat} {v : D} (hv : Gd W m v) (hne : ∀ xs, v = .tup xs → xs = []) (hN : N [some dk, some v, some (.int 1), none, none]) :
    wS gl cf WF (match f24.body with | .cons s _ => s | _ => .pass) [some dk, some v, some (.int 1), none, none] N Tq Bk Ct X := by
  unfold f24
  have hp := hv.p
  cases v with
  | tup xs =>
    have := hne xs rfl
    subst this
    walk_at "ev"
  | fz _ => cases m <;> simp [pln] at hp
  | scr _ => cases m <;> simp [pln] at hp
  | obj _ _ => cases m <;> simp [pln] at hp
  | _ => walk_at "ev"
theorem sp1_w {W B m : Nat} {v : D} (hn : 6 ≤ n) (h : IsDeck dk) (hv : Gb W B (m + 1) v) (hW : W ≤ 30000) (hB : B ≤ 1900) (hB0 : 130 ≤ B) (hm : 1 ≤ m)
    (k : ∀ (x dk' : D) (io : PD.Env), IsDeck dk' → Gb (3 * W + 140) (B + 2) (m + 2) x → Q x (some dk' :: io)) : wC (callF gl T.fns WF n 24 [dk, v, .int 1]) Q X := by
  refine wC_callF (F := f24) rfl (by omega) rfl ?_
  have r := fun dk' hd' => rest_w (n := n - 1) (dk := dk') (dp := .int 1) (Q := Q) (X := X) (m := m + 1) (by omega) hd' hv (by omega) hB hB0 (by omega) fun x dk2 io hd2 hx => k x dk2 io hd2 (hx.mono (by omega) (by omega) (by omega))
  by_cases hne : ∃ xs, v = .tup xs ∧ xs ≠ []
  · obtain ⟨xs, rfl, hne⟩ := hne
    exact wSs_cons.symm ▸ first19b (Wr := 0) (by omega) h hv hW hB hB0 hm hne k r
  · exact wSs_cons.symm ▸ first19c hv.g (fun xs e => by
      cases xs with
      | nil => rfl
      | cons a b => exact (hne ⟨_, e, by simp⟩).elim) (r dk h)
theorem first19b2 {Wr m : Nat} {N Bk Ct : PD.Env → Prop} {W B : Nat} {xs : List D} (hn : 6 ≤ n) (h : IsDeck dk) (hv : Gb W B (m + 2) (.tup xs)) (hW : W ≤ 30000) (hB : B ≤ 1900) (hB0 : 130 ≤ B) (hm : 1 ≤ m) (hne : xs ≠ [])
    (k : ∀ (x dk' : D) (io : PD.Env), IsDeck dk' → Gb (4 * W + 150) (B + 2) (m + 3) x → Q x (some dk' :: io)) (hN : ∀ dk', IsDeck dk' → N [some dk', some (.tup xs), some (.int 2), none, none]) :
    wS gl (callF gl T.fns WF n) WF (match f24.body with | .cons s _ => s | _ => .pass) [some dk, some (.tup xs), some (.int 2), none, none] N (fun d ρ => Q d (ρ.take 3)) Bk Ct X := by
  unfold f24
  have hw := hv.g.w
  rw [wt] at hw
  have hlen : xs.length ≤ 100000 := by
    have : ∀ ys : List D, ys.length ≤ wtL ys := fun ys => by
      induction ys with
      | nil => exact Nat.zero_le _
      | cons y ys ih => rw [wtL, List.length_cons]; omega
    have := this xs
    omega
  have hl1 : 1 ≤ xs.length := by
    cases xs with
    | nil => exact (hne rfl).elim
    | cons _ _ => simp
  have hemp : xs.isEmpty = false := by
    cases xs with
    | nil => exact (hne rfl).elim
    | cons _ _ => rfl
  walk_at "ev"
  refine draw_w hD (by omega) h (by decide) (by decide) fun b dk1 hd1 b0 b1 => ?_
  walk_at "ev"
  split
  · refine draw_w hD (by omega) hd1 (by omega) (by omega) fun a dk2 hd2 a0 a1 => ?_
    obtain ⟨y, hy, ey⟩ := atI_some a0 a1
    have hym := List.mem_of_getElem? hy
    have gy : Gb W B (m + 1) y := hv.item hym
    have c1 : PD.cutD xs none (some a) = xs.take a.toNat := cutD_to a0
    have c2 : PD.cutD xs (some (a + 1)) none = xs.drop (a.toNat + 1) := by rw [cutD_fr (by omega)]; congr 1; omega
    walk_at "ev"
    refine sp1_w (by omega) hd2 gy (by omega) hB hB0 hm fun z dk3 io hd3 gz => ?_
    walk_at "ev"
    simp only [List.length_append, List.length_take, List.length_drop, List.length_cons, List.length_nil]
    refine ⟨fitn_of (by omega), fitn_of (by omega), ?_⟩
    refine k _ _ _ hd3 ?_
    have w3 := wtL_drop xs (a.toNat + 1)
    have w5 := wtL_split xs a.toNat
    have w6 : wtL (xs.drop (a.toNat + 1)) ≤ wtL (xs.drop a.toNat) := by
      have : xs.drop (a.toNat + 1) = (xs.drop a.toNat).drop 1 := by rw [List.drop_drop]
      rw [this]
      exact wtL_drop _ 1
    have hz := gz.g.w
    have hp : plnL (m + 1) xs = true := by have := hv.g.p; simpa [pln] using this
    have hib : ibL (B + 2) (xs.take a.toNat ++ [z] ++ xs.drop (a.toNat + 1)) = true := by
      refine ibL_all fun q hq => ?_
      rcases List.mem_append.mp hq with hq | hq
      · rcases List.mem_append.mp hq with hq | hq
        · exact ib_mono (by omega) q (ibL_mem hv.i q (List.mem_of_mem_take hq))
        · rw [List.mem_singleton] at hq
          rw [hq]; exact gz.i
      · exact ib_mono (by omega) q (ibL_mem hv.i q (List.mem_of_mem_drop hq))
    refine ⟨⟨?_, ?_, ?_⟩, hib⟩
    · simp only [wt, wtL_append, wtL]; omega
    · simp only [pln]
      refine plnL_all fun q hq => ?_
      rcases List.mem_append.mp hq with hq | hq
      · rcases List.mem_append.mp hq with hq | hq
        · exact pln_mono (m + 1) (m + 2) q (by omega) (plnL_mem hp (List.mem_of_mem_take hq))
        · rw [List.mem_singleton] at hq
          rw [hq]; exact gz.g.p
      · exact pln_mono (m + 1) (m + 2) q (by omega) (plnL_mem hp (List.mem_of_mem_drop hq))
    · refine ascL_all fun q hq => ?_
      rcases List.mem_append.mp hq with hq | hq
      · rcases List.mem_append.mp hq with hq | hq
        · exact ascL_mem hv.g.a (List.mem_of_mem_take hq)
        · rw [List.mem_singleton] at hq
          rw [hq]; exact gz.g.a
      · exact ascL_mem hv.g.a (List.mem_of_mem_drop hq)
  · first | trivial | exact hN _ hd1
theorem first19c2 {cf : Nat → List D → C} {N Bk Ct : PD.Env → Prop} {Tq : D → PD.Env → Prop} {W m : Nat} {v : D} (hv : Gd W m v) (hne : ∀ xs, v = .tup xs → xs = []) (hN : N [some dk, some v, some (.int 2), none, none]) :
    wS gl cf WF (match f24.body with | .cons s _ => s | _ => .pass) [some dk, some v, some (.int 2), none, none] N Tq Bk Ct X := by
  unfold f24
  have hp := hv.p
  cases v with
  | tup xs =>
    have := hne xs rfl
    subst this
    walk_at "ev"
  | fz _ => cases m <;> simp [pln] at hp
  | scr _ => cases m <;> simp [pln] at hp
  | obj _ _ => cases m <;> simp [pln] at hp
  | _ => walk_at "ev"
theorem sp2_w {W B m : Nat} {v : D} (hn : 7 ≤ n) (h : IsDeck dk) (hv : Gb W B (m + 2) v) (hW : W ≤ 30000) (hB : B ≤ 1900) (hB0 : 130 ≤ B) (hm : 1 ≤ m)
    (k : ∀ (x dk' : D) (io : PD.Env), IsDeck dk' → Gb (4 * W + 150) (B + 2) (m + 3) x → Q x (some dk' :: io)) : wC (callF gl T.fns WF n 24 [dk, v, .int 2]) Q X := by
  refine wC_callF (F := f24) rfl (by omega) rfl ?_
  have r := fun dk' hd' => rest_w (n := n - 1) (dk := dk') (dp := .int 2) (Q := Q) (X := X) (m := m + 2) (by omega) hd' hv (by omega) hB hB0 (by omega) fun x dk2 io hd2 hx => k x dk2 io hd2 (hx.mono (by omega) (by omega) (by omega))
  by_cases hne : ∃ xs, v = .tup xs ∧ xs ≠ []
  · obtain ⟨xs, rfl, hne⟩ := hne
    exact wSs_cons.symm ▸ first19b2 (Wr := 0) (by omega) h hv hW hB hB0 hm hne k r
  · exact wSs_cons.symm ▸ first19c2 hv.g (fun xs e => by
      cases xs with
      | nil => rfl
      | cons a b => exact (hne ⟨_, e, by simp⟩).elim) (r dk h)
end


section
variable {n : Nat} {Q : D → PD.Env → Prop} {X : XQ} {dk : D}
theorem partOk (hn : 3 ≤ n) : PartOk gl T.fns WF n 5 := partOk_of (jN := 0) (jE := 2) (jB := 1) (jW := 3) (jS := 4) (g := 3) (g2 := 4) rfl rfl rfl rfl rfl rfl rfl rfl hn
theorem lPartOk (hn : 2 ≤ n) : LPartOk gl T.fns WF n 26 := lPartOk_of (jN := 13) (jB := 15) (jS := 25) rfl rfl rfl rfl hn
theorem err_w {d : D} (hn : 4 ≤ n) (hd : VisT d) (k : ∀ io, Q (deedErr d) io) : wC (callF gl T.fns WF n 6 [d]) Q X := deedErr_w hE (partOk (by omega)) rfl (by omega) hd k
theorem lerr_w {d : D} (hn : 4 ≤ n) (hd : VisT d) (k : ∀ io, Q (deedErr d) io) : wC (callF gl T.fns WF n 27 [d]) Q X := lDeedErr_w hLE hWs hR (lPartOk (by omega)) (by omega) hd k
theorem perr_w {v r : D} {W m : Nat} (hn : 5 ≤ n) (hv : Gd W m v) (hW : W ≤ 1000000) (hr : ProgR v r) (k : ∀ io, Q r io) : wC (callF gl T.fns WF n 9 [v]) Q X :=
  prog_w hPr (fun d Q X hd k => err_w (by omega) hd k) hNs hNd rfl rfl rfl rfl (by omega) hv hW hr k
theorem lperr_w {v r : D} {W m : Nat} (hn : 5 ≤ n) (hv : Gd W m v) (hW : W ≤ 1000000) (hr : ProgR v r) (k : ∀ io, Q r io) : wC (callF gl T.fns WF n 28 [v]) Q X :=
  lProg_w hLp (fun d Q X hd k => lerr_w (by omega) hd k) hLn hLo hR (by omega) hv hW hr k
theorem err_three (d : D) : deedErr d = .non ∨ deedErr d = .str "deed" ∨ deedErr d = .str "part" := by
  unfold deedErr
  split
  · split
    · split
      · split
        · exact .inl rfl
        · exact .inr (.inr rfl)
      · exact .inr (.inl rfl)
    · exact .inr (.inl rfl)
  · exact .inr (.inl rfl)
theorem bad_shape : ∀ {xs : List D} {k : Nat} {b : D}, badFrom k xs = some b → ∃ (i : Nat) (e : D), b = .tup [.int (i : Nat), e] ∧ i < k + xs.length ∧ (e = .str "deed" ∨ e = .str "part")
  | [], k, b, h => by cases h
  | x :: xs, k, b, h => by
    unfold badFrom at h
    split at h
    · obtain ⟨i, e, h1, h2, h3⟩ := bad_shape h
      exact ⟨i, e, h1, by rw [List.length_cons]; omega, h3⟩
    · rename_i hx
      cases h
      refine ⟨k, _, rfl, by rw [List.length_cons]; omega, ?_⟩
      rcases err_three x with e | e
      · rw [e] at hx
        exact (hx rfl).elim
      · exact e
theorem ok_two {i : Nat} {e : D} (hi : i < 13) (he : e = .str "deed" ∨ e = .str "part") : reprOk (.tup [.int (i : Nat), e]) = true := by
  have hl : i < 13 := hi
  rcases he with rfl | rfl
  all_goals
    refine reprOk_of 1 (by decide) ?_ (by simp [pln, plnL]) ?_
    · have : i.log2 ≤ i := Nat.log2_le_self i
      have e1 : ("deed" : Str).length = 4 := by decide +kernel
      have e2 : ("part" : Str).length = 4 := by decide +kernel
      simp only [wt, wtL, e1, e2, Int.natAbs_natCast]
      omega
    · simp only [asc, ascL, Bool.true_and, Bool.and_true]
      decide +kernel
theorem prog_ok {v r : D} (h : ProgR v r) : reprOk r = true := by
  have c1 : reprOk (.tup [.non, .str "program"]) = true := reprOk_of 1 (by decide) (by decide +kernel) (by simp [pln, plnL]) (by decide +kernel)
  have c2 : reprOk (.tup [.non, .str "old"]) = true := reprOk_of 1 (by decide) (by decide +kernel) (by simp [pln, plnL]) (by decide +kernel)
  have c3 : reprOk (.tup [.non, .str "new"]) = true := reprOk_of 1 (by decide) (by decide +kernel) (by simp [pln, plnL]) (by decide +kernel)
  have c4 : reprOk .non = true := reprOk_of 1 (by decide) (by decide +kernel) (by simp [pln, plnL]) (by decide +kernel)
  unfold ProgR at h
  split at h
  · rename_i xs
    split at h
    · rw [h]; exact c1
    · rename_i hl
      split at h
      · rename_i b hb
        obtain ⟨i, e, h1, h2, h3⟩ := bad_shape hb
        rw [h, h1]
        exact ok_two (by omega) h3
      · obtain ⟨ys, _, _, h⟩ := h
        rw [h]
        unfold finD
        split
        · exact c2
        · split
          · exact c3
          · exact c4
  · rw [h]; exact c1

theorem words_ok : ∀ s ∈ WORDS, ∃ ks, look s = some ks := fun s hs => by
  cases e : look s with
  | some ks => exact ⟨ks, rfl⟩
  | none =>
    have := look_none.mp e
    rw [List.contains_iff_mem.mpr hs] at this
    cases this
theorem law_true (ns : List Int) (hns : ns.length ≤ 63) : ∃ io, callF gl T.fns WF 10 29 [.scr ns] = .ok (.bl true) io := by
  have hw : wC (callF gl T.fns WF 10 29 [.scr ns]) (fun d _ => d = .bl true) (fun _ _ _ => False) := by
    refine wC_callF (F := f29) rfl (by omega) rfl ?_
    unfold f29
    walk_at "ev"
    refine deck_w hDk (by decide) (by decide) (by decide) (by decide) (by decide) hns fun dk io hd => ?_
    walk_at "ev"
    refine ⟨by decide, ?_⟩
    refine wF_inv (fun _ ρ => ∃ (dk : D) (a b c d e f g h i : Option D), IsDeck dk ∧ ρ = [some (.scr ns), some dk, a, b, c, d, e, f, g, h, i]) ⟨dk, _, _, _, _, _, _, _, _, _, hd, rfl⟩ ?_ ?_
    · rintro i d ρ _ ⟨dk, a, b, c, e, f, g, h, p, q, hd, rfl⟩
      walk_at "ev"
      refine draw_w hD (by decide) hd (by decide) (by decide) fun x dk1 hd1 x0 x1 => ?_
      walk_at "ev"
      refine menu_w hM hD hP (by decide) hd1 (by omega) (by omega) fun L dk2 hd2 hL hl => ?_
      walk_at "ev"
      refine words_w hWs (by decide) fun io => ?_
      walk_at "ev"
      refine draw_w hD (by decide) hd2 (by decide) (by decide) fun w0 dk3 hd3 w1 w2 => ?_
      obtain ⟨Wd, hWd, hat⟩ : ∃ Wd : List Str, (∀ s ∈ Wd, ∃ ks, look s = some ks) ∧ 1 ≤ Wd.length ∧ Wd.length ≤ 100 ∧ atI [D.lst (WORDS.map .str), .lst [.str "put", .str "fuse", .str "step"], .lst [.str "step", .str "wires"]] w0 = some (.lst (Wd.map .str)) := by
        rcases (show w0 = 0 ∨ w0 = 1 ∨ w0 = 2 by omega) with rfl | rfl | rfl
        · exact ⟨WORDS, words_ok, by decide +kernel, by decide +kernel, rfl⟩
        · exact ⟨["put", "fuse", "step"], by
            intro s hs
            simp at hs
            rcases hs with rfl | rfl | rfl <;> exact ⟨_, by rfl⟩, by decide, by decide, rfl⟩
        · exact ⟨["step", "wires"], by
            intro s hs
            simp at hs
            rcases hs with rfl | rfl <;> exact ⟨_, by rfl⟩, by decide, by decide, rfl⟩
      obtain ⟨hW1, hW2, hat⟩ := hat
      walk_at "ev"
      refine draw_w hD (by decide) hd3 (by decide) (by decide) fun c0 dk4 hd4 c00 c01 => ?_
      walk_at "ev"
      refine draw_w hD (by decide) hd4 (by decide) (by decide) fun c1 dk5 hd5 c10 c11 => ?_
      walk_at "ev"
      refine draw_w hD (by decide) hd5 (by decide) (by decide) fun c2 dk6 hd6 c20 c21 => ?_
      obtain ⟨cnt, cn0, cn1, hcat⟩ : ∃ cnt : Int, 0 ≤ cnt ∧ cnt ≤ 14 ∧ atI [D.int c0, .int (11 + c1)] (if c2 = 0 then 1 else 0) = some (.int cnt) := by
        by_cases h0 : c2 = 0
        · rw [if_pos h0]
          exact ⟨11 + c1, by omega, by omega, rfl⟩
        · rw [if_neg h0]
          exact ⟨c0, by omega, by omega, rfl⟩
      walk_at "ev"
      have rl : (rngD 0 cnt.toNat).length ≤ 14 := by simp only [rngD, List.length_map, List.length_range]; omega
      refine ⟨by simp [okR]; omega, fitn_of (by omega), ?_⟩
      have hl1 : 1 ≤ L.length := by omega
      have hl2 : L.length ≤ 100 := by omega
      refine wL_inv (fun i ys ρ => ∃ (dk : D) (u : Option D), IsDeck dk ∧ (∀ y ∈ ys, Gd 100 1 y) ∧ ys.length ≤ i ∧ ρ = [some (.scr ns), some dk, some d, some (.lst (L.map .str)), some (.lst (Wd.map .str)), some (.int cnt), f, g, h, p, u]) ⟨_, _, hd6, by simp, by simp, rfl⟩ ?_ ?_
      · rintro j z ys ρ hz ⟨dk, u, hd, hy, hlen, rfl⟩
        walk_at "ev"
        refine deed_w hDe hI hR hP hD hW (by decide) hd hL.nm hl1 hl2 hW1 hW2 hWd fun w ks items dk2 io hd2 hwm ok => ?_
        walk_at "ev"
        refine ⟨_, _, hd2, fun y hy2 => ?_, by rw [List.length_append]; simp; omega, rfl⟩
        rcases List.mem_append.mp hy2 with hq | hq
        · exact hy y hq
        · rw [List.mem_singleton] at hq
          rw [hq]; exact ok.gd
      · rintro ys ρ ⟨dk, u, hd, hy, hlen, rfl⟩
        walk_at "ev"
        have gv0 : Gb 1440 130 3 (.tup ys) := by
          have hlen2 : ys.length ≤ 14 := by omega
          have wl : ∀ (l : List D), (∀ y ∈ l, Gd 100 1 y) → wtL l ≤ 102 * l.length := by
            intro l
            induction l with
            | nil => intro _; simp [wtL]
            | cons z l ih =>
              intro hh
              have := ih fun y hy => hh y (List.mem_cons_of_mem _ hy)
              have := (hh z (List.mem_cons_self ..)).w
              rw [wtL, List.length_cons]
              omega
          have := wl ys hy
          refine ⟨⟨by rw [wt]; omega, ?_, ascL_all fun y hh => (hy y hh).a⟩, ibL_all fun y hh => ib_wt y 130 (by have := (hy y hh).w; omega)⟩
          simp only [pln]
          exact plnL_all fun y hh => pln_mono 1 2 y (by decide) (hy y hh).p
        refine draw_w hD (by decide) hd (by decide) (by decide) fun t0 dk7 hd7 t1 t2 => ?_
        obtain ⟨tt, tt0, tt1, htt⟩ : ∃ tt : Int, 0 ≤ tt ∧ tt ≤ 2 ∧ atI [D.int 0, .int 0, .int 1, .int 2] t0 = some (.int tt) := by
          rcases (show t0 = 0 ∨ t0 = 1 ∨ t0 = 2 ∨ t0 = 3 by omega) with rfl | rfl | rfl | rfl
          · exact ⟨0, by decide, by decide, rfl⟩
          · exact ⟨0, by decide, by decide, rfl⟩
          · exact ⟨1, by decide, by decide, rfl⟩
          · exact ⟨2, by decide, by decide, rfl⟩
        walk_at "ev"
        have hrl : ∀ (j : Nat) (q : D), (rngD 0 tt.toNat)[j]? = some q → j < 2 := fun j q hj => by
          have := (List.getElem?_eq_some_iff.mp hj).1
          simp only [rngD, List.length_map, List.length_range] at this
          omega
        refine ⟨by simp [okR]; omega, ?_⟩
        refine wF_inv (fun j ρ => ∃ (dk v : D) (a b c e f g h k : Option D), IsDeck dk ∧ ((j = 0 ∧ Gb 1440 130 3 v) ∨ (j = 1 ∧ Gb 5910 132 4 v) ∨ (j = 2 ∧ Gb 23790 134 5 v)) ∧ ρ = [some (.scr ns), some dk, a, b, c, e, some v, f, g, h, k]) ⟨_, _, _, _, _, _, _, _, _, _, hd7, .inl ⟨rfl, gv0⟩, rfl⟩ ?_ ?_
        · rintro j q ρ hj ⟨dk, v, a, b, c, e, f, g, h, k, hd, hv, rfl⟩
          have hj2 := hrl j q hj
          walk_at "ev"
          rcases hv with ⟨rfl, hv⟩ | ⟨rfl, hv⟩ | ⟨rfl, hv⟩
          · refine sp2_w (by decide) hd hv (by decide) (by decide) (by decide) (by decide) fun v' dk' io hd' hv' => ?_
            walk_at "ev"
            first | exact ⟨_, _, _, _, _, _, _, _, _, _, hd', .inr (.inl hv'), rfl⟩ | exact ⟨_, _, _, _, _, _, _, _, _, _, hd', .inr (.inl ⟨rfl, hv'⟩), rfl⟩ | trace_state
          · refine sp2_w (by decide) hd hv (by decide) (by decide) (by decide) (by decide) fun v' dk' io hd' hv' => ?_
            walk_at "ev"
            first | exact ⟨_, _, _, _, _, _, _, _, _, _, hd', .inr (.inr hv'), rfl⟩ | exact ⟨_, _, _, _, _, _, _, _, _, _, hd', .inr (.inr ⟨rfl, hv'⟩), rfl⟩ | exact ⟨_, _, _, _, _, _, _, _, _, _, hd', .inr hv', rfl⟩ | trace_state
          · omega
        · rintro ρ ⟨dk, v, a, b, c, e, f, g, h, k, hd, hv, rfl⟩
          have hv : Gb 23790 134 5 v := by
            rcases hv with ⟨_, hv⟩ | ⟨_, hv⟩ | ⟨_, hv⟩
            · exact hv.mono (by decide) (by decide) (by decide)
            · exact hv.mono (by decide) (by decide) (by decide)
            · exact hv
          have rv := hv.repr (by decide) (by decide) (by decide)
          obtain ⟨r, hr⟩ := prog_ex v
          have re := prog_ok hr
          walk_at "ev"
          refine perr_w (by decide) hv.g (by decide) hr fun io => ?_
          walk_at "ev"
          refine lperr_w (by decide) hv.g (by decide) hr fun io => ?_
          walk_at "ev"
          refine odd_w (by decide) hd fun z dk5 hd5 hz => ?_
          obtain ⟨rz, hrz⟩ := prog_ex z
          have rz2 := prog_ok hrz
          walk_at "ev"
          refine perr_w (by decide) hz (by decide) hrz fun io => ?_
          walk_at "ev"
          refine lperr_w (by decide) hz (by decide) hrz fun io => ?_
          walk_at "ev"
          first | (rw [decide_true]; exact ⟨_, _, _, _, _, _, _, _, _, _, hd5, rfl⟩) | trace_state
    · rintro ρ ⟨dk, a, b, c, e, f, g, h, p, q, r, hd, rfl⟩
      walk_at "ev"
  cases e : callF gl T.fns WF 10 29 [.scr ns] with
  | ok d io => rw [e] at hw; exact ⟨io, by rw [show d = .bl true from hw]⟩
  | ex c fs io => rw [e] at hw; exact hw.elim
  | no => rw [e] at hw; exact hw.elim
end
end K14
end

section
set_option Elab.async false
set_option linter.all false
set_option maxRecDepth 100000
set_option maxHeartbeats 0
/-! K14H: the head -/
namespace K14
open PySem PySem.Spec PyProof.Rows L2 PD
abbrev RR : PySem.W.OpenRow := PySem.W.OpenLaw.row PySem.Challenge.rw_shuntrounds_k14_what_is_no_program
abbrev hk : PySem.W.Hook := hookP 4 T gl
def ob (s : PySem.W.SharedT) : AlP := obsPG 4 T gl (HandSHeadRun.getT s)
theorem ob_eq (s : PySem.W.SharedT) : ob s = hk.obs s.abs := obsPG_eq (HandSHeadRun.getT_eq s)
def loose : List PySem.Str := (["MAX_DEEDS", "MAX_NEW", "MAX_OLD", "LETTERS", "WAYS", "is_name", "is_below", "is_evening", "is_way", "is_ways", "PARTS", "is_part", "deed_error", "named", "names_in", "program_error", "_law_deck", "_law_draw", "_law_pick", "_law_is_name", "_law_menu", "_law_is_below", "_law_ways", "_law_parts", "_law_words", "_law_old", "_law_names", "_law_item", "_law_deed", "_law_odd"] : List PySem.Str) ++ (["_law_spoilt", "_law_is_ways", "_law_is_part", "_law_deed_error", "_law_program_error"] : List PySem.Str)
theorem run (w : World) : HandSHeadRun.RunEq RR (PySem.W.view RR.prog [38]) hk ob 4000 loose w := by
  revert w
  refine PySem.W.byRow2 "special-get-raises" ?_ ?_
  · intro w os; kernel_rfl
  · intro w os; kernel_rfl
end K14
open PySem PySem.W PySem.Calls PyProof.Rows
theorem PySem.Challenge.cw_shuntrounds_k14_what_is_no_program_holds : PySem.Challenge.rw_shuntrounds_k14_what_is_no_program.Holds := by
  w_on; o_law
  refine HandSHeadRun.head_any (r := OpenLaw.row PySem.Challenge.rw_shuntrounds_k14_what_is_no_program) (q := view (OpenLaw.row PySem.Challenge.rw_shuntrounds_k14_what_is_no_program).prog [38]) (H := K14.hk) (ob := K14.ob) (M := 4000) (loose := K14.loose) (d := HandSHeadRun.topDef (OpenLaw.row PySem.Challenge.rw_shuntrounds_k14_what_is_no_program).prog 38) (kwd := []) K14.ob_eq
    (by kernel_rfl) (fun s => by kernel_rfl) K14.run (by kernel_rfl) (by kernel_rfl) (by kernel_rfl) (by rfl) (by first | assumption | decide +kernel) (by decide +kernel) ⟨rfl, rfl, rfl, rfl, rfl, by decide +kernel⟩ ?hw ?hc
  case hw => w_witness2
  case hc =>
    exact PD.walkP (l := PySem.Challenge.rw_shuntrounds_k14_what_is_no_program) (n := 63) (lv := 10) (fuel := 200) (wf := PD.WF) (il := 29) (T := K14.T) (G := K14.gl) (x := "_law_script") (dt := K14.d29) (F := K14.f29) rfl (by decide) (by kernel_rfl) ⟨rfl, by decide, by decide⟩ rfl K14.bind K14.ok (by rfl) (by rfl) (by rfl) (by kernel_rfl) (by kernel_rfl) (by rfl) (by rfl) (by rfl) (fun ns h => K14.law_true ns h)
end
