import PyProof.Rows.All
import Wide.All
import OpenK.AllK
import Wide.FinOn
import HandS.ForMost
import HandS.Exc
import HandS.ExcInit
import HandS.WordsExc
import HandS.Lambda
import HandS.Style
import HandS.TupAny
import HandS.Wide
import HandS.Flow
import HandS.Deep
import HandS.IsInst
import HandS.Small
import PyProof.Rows.TupMore
import HandS.CallSlots
import HandS.ExcOwn
import HandS.Zip
import HandS.Iter
import KE.GoesEnum
import HandS.Zip0
import KE.KDictZip
import HandS.Star
import HandS.ClsMeth
import HandS.MakeKwOnly
import HandS.More
import PyProof.ReprRoads
import KE.SortKeyHeap
import HandS.SortKw
import HandS.OwnEq
import HandS.Dict
import HandS.TupSets
import HandS.Strs
import PyProof.Rows.SortShellAny
import HandS.DictComp
import KE.KStateDown
import HandS.Head0
import HandS.Head1
import HandS.Head2
import HandS.HeadEnd
import HandS.HeadHook1
import HandS.HeadHook2
import HandS.HeadHook3
import HandS.HeadHook4
import HandS.HeadWalk
import PySem.Challenge.RW_speaklast_k10_rows_of_tables
section
set_option Elab.async false
set_option linter.all false
set_option maxRecDepth 100000
namespace Ir
open PySem PySem.Spec PyProof.Rows L2

/-- plain data: what a Python value comes to; ref: an object of the store that may change -/
inductive D where
  | non | bl (b : Bool) | int (i : Int) | str (x : Str)
  | tup (ds : List D) | lst (ds : List D) | klst (ds : List D) | dic (ks vs : List D) | set (ds : List D)
  | ins (c : Nat) (ks : List Str) (ds : List D)
  | ref (n : Nat) | cls (c : Nat) | ty (n : String)
abbrev Sto := List D
abbrev Ev := List (Option D)
inductive R (α : Type) where
  | ok (a : α) (s : Sto) | ex (k : Nat) (ds : List D) (s : Sto) | bad
def R.bind {α β : Type} (r : R α) (f : α → Sto → R β) : R β := match r with
  | .ok a s => f a s
  | .ex k ds s => .ex k ds s
  | .bad => .bad

/-- what is fixed: the written part, the classes, the names of their fields -/

structure Xn where
  nm : Nat → List Str
  tb : List (Addr × Str)
structure Rc where
  K : PySem.W.Frag
  cl : Nat → Addr
  xn : Xn
/-- where things stand -/
structure Wd where
  η : Nat → Addr
  N : Nat
  Z : Addr → Prop
  H : Hp
structure Ext (w w' : Wd) : Prop where
  n : w.N ≤ w'.N
  eta : ∀ i, i < w.N → w'.η i = w.η i
  z : ∀ a, w.Z a → w'.Z a
  h : ∀ a, w.Z a → w'.H a = w.H a
  t : ∀ a xs, w.H a = some (.tup xs) → w'.H a = some (.tup xs)
  f : ∀ a o u, w.H a = some (.frz o u) → w'.H a = some (.frz o u)
theorem Ext.refl (w : Wd) : Ext w w := ⟨Nat.le_refl _, fun _ _ => rfl, fun _ h => h, fun _ _ => rfl, fun _ _ h => h, fun _ _ _ h => h⟩
theorem Ext.trans {a b c : Wd} (x : Ext a b) (y : Ext b c) : Ext a c :=
  ⟨Nat.le_trans x.n y.n, fun i h => (y.eta i (Nat.lt_of_lt_of_le h x.n)).trans (x.eta i h), fun p h => y.z p (x.z p h), fun p h => (y.h p (x.z p h)).trans (x.h p h), fun p xs h => y.t p xs (x.t p xs h), fun p o u h => y.f p o u (x.f p o u h)⟩

/-- a tuple | a list of the written part -/
def KT (K : PySem.W.Frag) (a : Addr) (xs : List V) : Prop := ∃ (o : Obj) (its : Array Value) (n : Nat), K.lookup a = some o ∧ o.cls = .type "tuple" ∧ o.data = .seq its n ∧ its.size ≤ sizeLine ∧ Vals xs its.toList
def KL (K : PySem.W.Frag) (a : Addr) (xs : List V) : Prop := ∃ (o : Obj) (its : Array Value) (n : Nat), K.lookup a = some o ∧ o.cls = .type "list" ∧ o.dict = none ∧ o.data = .seq its n ∧ its.size ≤ sizeLine ∧ Vals xs its.toList
/-- a list that stays as it is -/
def FzL (w : Wd) (a : Addr) (vs : List V) : Prop := w.Z a ∧ w.H a = some (.lst vs)
theorem FzL.mono {w w' : Wd} {a : Addr} {vs : List V} (h : FzL w a vs) (e : Ext w w') : FzL w' a vs := ⟨e.z _ h.1, (e.h _ h.1).trans h.2⟩
/-- a list that is locked, or of the written part -/
def KzL (c : Rc) (w : Wd) (a : Addr) (vs : List V) : Prop := (∃ o, w.H a = some (.frz o (.lst vs))) ∨ KL c.K a vs
theorem KzL.mono {c : Rc} {w w' : Wd} {a : Addr} {vs : List V} (h : KzL c w a vs) (e : Ext w w') : KzL c w' a vs := by
  rcases h with ⟨o, h⟩ | h
  · exact .inl ⟨o, e.f _ _ _ h⟩
  · exact .inr h
theorem KzL.sq {c : Rc} {w : Wd} {a : Addr} {vs : List V} (h : KzL c w a vs) : SqL c.K w.H a vs := by
  rcases h with h | h
  · exact .inl (.inr h)
  · exact .inr h
/-- a tuple: tracked, or of the written part -/
def TzT (c : Rc) (w : Wd) (a : Addr) (vs : List V) : Prop := w.H a = some (.tup vs) ∨ KT c.K a vs
theorem TzT.mono {c : Rc} {w w' : Wd} {a : Addr} {vs : List V} (h : TzT c w a vs) (e : Ext w w') : TzT c w' a vs := by
  rcases h with h | h
  · exact .inl (e.t _ _ h)
  · exact .inr h
theorem TzT.sq {c : Rc} {w : Wd} {a : Addr} {vs : List V} (h : TzT c w a vs) : SqT c.K w.H a vs := by
  rcases h with h | h
  · exact .inl (.inl h)
  · exact .inr h
def kd : Key → D
  | .inl i => .int i
  | .inr x => .str x
/-- a dict holds these pairs -/
def IsDic (H : Hp) (a : Addr) (ks : List D) (vs : List V) : Prop :=
  (∃ kvs : List (Key × V), H a = some (.dK kvs) ∧ ks = kvs.map (fun q => kd q.1) ∧ vs = kvs.map (·.2)) ∨
  (∃ kvs : List (List Key × V), H a = some (.dT kvs) ∧ ks = D.non :: kvs.map (fun q => D.tup (q.1.map kd)) ∧ vs = kvs.map (·.2))

mutual
def rv (c : Rc) (w : Wd) : D → V → Prop
  | .non, v => v = .non
  | .bl b, v => v = .bl b
  | .int i, v => v = .int i
  | .str x, v => v = .str x
  | .tup ds, v => ∃ a vs, v = .ref a ∧ TzT c w a vs ∧ rvs c w ds vs
  | .lst ds, v => ∃ a vs, v = .ref a ∧ FzL w a vs ∧ rvs c w ds vs
  | .klst ds, v => ∃ a vs, v = .ref a ∧ KzL c w a vs ∧ rvs c w ds vs
  | .dic ks ds, v => ∃ a vs, v = .ref a ∧ w.Z a ∧ IsDic w.H a ks vs ∧ rvs c w ds vs
  | .set _, _ => False
  | .ins k ks ds, v => ∃ a dx vs, v = .ref a ∧ w.Z a ∧ w.H a = some (.ins (c.cl k) dx (ks.zip vs)) ∧ ks.length = ds.length ∧ rvs c w ds vs
  | .ref n, v => n < w.N ∧ v = .ref (w.η n)
  | .cls k, v => v = .ref (c.cl k)
  | .ty n, v => v = .ty n
def rvs (c : Rc) (w : Wd) : List D → List V → Prop
  | [], vs => vs = []
  | d :: ds, vs => ∃ v r, vs = v :: r ∧ rv c w d v ∧ rvs c w ds r
end
mutual
theorem rv.mono {c : Rc} {w w' : Wd} (e : Ext w w') : ∀ (d : D) (v : V), rv c w d v → rv c w' d v
  | .non, _, h => by simpa only [rv] using h
  | .bl b, _, h => by simpa only [rv] using h
  | .int i, _, h => by simpa only [rv] using h
  | .str x, _, h => by simpa only [rv] using h
  | .tup ds, _, h => by
    simp only [rv] at h ⊢
    obtain ⟨a, vs, h1, h2, h3⟩ := h
    exact ⟨a, vs, h1, h2.mono e, rvs.mono e ds vs h3⟩
  | .lst ds, _, h => by
    simp only [rv] at h ⊢
    obtain ⟨a, vs, h1, h2, h3⟩ := h
    exact ⟨a, vs, h1, h2.mono e, rvs.mono e ds vs h3⟩
  | .klst ds, _, h => by
    simp only [rv] at h ⊢
    obtain ⟨a, vs, h1, h2, h3⟩ := h
    exact ⟨a, vs, h1, h2.mono e, rvs.mono e ds vs h3⟩
  | .dic ks ds, _, h => by
    simp only [rv] at h ⊢
    obtain ⟨a, vs, h1, h2, h3, h4⟩ := h
    refine ⟨a, vs, h1, e.z _ h2, ?_, rvs.mono e ds vs h4⟩
    unfold IsDic at h3 ⊢
    rw [e.h _ h2]
    exact h3
  | .set _, _, h => by simpa only [rv] using h
  | .ins k ks ds, _, h => by
    simp only [rv] at h ⊢
    obtain ⟨a, dx, vs, h1, h2, h3, h4, h5⟩ := h
    exact ⟨a, dx, vs, h1, e.z _ h2, (e.h _ h2).trans h3, h4, rvs.mono e ds vs h5⟩
  | .ref n, _, h => by
    simp only [rv] at h ⊢
    exact ⟨Nat.lt_of_lt_of_le h.1 e.n, by rw [e.eta n h.1]; exact h.2⟩
  | .cls k, _, h => by simpa only [rv] using h
  | .ty n, _, h => by simpa only [rv] using h
theorem rvs.mono {c : Rc} {w w' : Wd} (e : Ext w w') : ∀ (ds : List D) (vs : List V), rvs c w ds vs → rvs c w' ds vs
  | [], _, h => by simpa only [rvs] using h
  | d :: ds, _, h => by
    simp only [rvs] at h ⊢
    obtain ⟨v, r, h1, h2, h3⟩ := h
    exact ⟨v, r, h1, rv.mono e d v h2, rvs.mono e ds r h3⟩
end
theorem rvs.length {c : Rc} {w : Wd} : ∀ {ds : List D} {vs : List V}, rvs c w ds vs → ds.length = vs.length
  | [], _, h => by simp only [rvs] at h; subst h; rfl
  | d :: ds, _, h => by
    simp only [rvs] at h
    obtain ⟨v, r, rfl, _, h3⟩ := h
    simp only [List.length_cons, rvs.length h3]
theorem rvs.get {c : Rc} {w : Wd} : ∀ {ds : List D} {vs : List V}, rvs c w ds vs → ∀ (i : Nat) (d : D), ds[i]? = some d → ∃ v, vs[i]? = some v ∧ rv c w d v
  | [], _, h, i, d, e => by simp at e
  | x :: ds, _, h, i, d, e => by
    simp only [rvs] at h
    obtain ⟨v, r, rfl, h2, h3⟩ := h
    cases i with
    | zero => simp only [List.getElem?_cons_zero, Option.some.injEq] at e; subst e; exact ⟨v, rfl, h2⟩
    | succ i =>
      simp only [List.getElem?_cons_succ] at e ⊢
      exact rvs.get h3 i d e
theorem rvs.append {c : Rc} {w : Wd} : ∀ {ds es : List D} {vs us : List V}, rvs c w ds vs → rvs c w es us → rvs c w (ds ++ es) (vs ++ us)
  | [], _, _, _, h, q => by simp only [rvs] at h; subst h; exact q
  | x :: ds, _, _, _, h, q => by
    simp only [rvs] at h
    obtain ⟨v, r, rfl, h2, h3⟩ := h
    simp only [List.cons_append, rvs]
    exact ⟨v, _, rfl, h2, rvs.append h3 q⟩
theorem rvs.cons {c : Rc} {w : Wd} {d : D} {ds : List D} {v : V} {vs : List V} (h : rv c w d v) (q : rvs c w ds vs) : rvs c w (d :: ds) (v :: vs) := by
  simp only [rvs]; exact ⟨v, vs, rfl, h, q⟩
theorem rvs.nil {c : Rc} {w : Wd} : rvs c w [] [] := by simp only [rvs]
theorem rvs.take {c : Rc} {w : Wd} : ∀ {ds : List D} {vs : List V} (n : Nat), rvs c w ds vs → rvs c w (ds.take n) (vs.take n)
  | _, _, 0, h => by simp only [List.take_zero]; exact .nil
  | [], _, n + 1, h => by simp only [rvs] at h; subst h; exact .nil
  | x :: ds, _, n + 1, h => by
    simp only [rvs] at h
    obtain ⟨v, r, rfl, h2, h3⟩ := h
    simp only [List.take_succ_cons]
    exact .cons h2 (rvs.take n h3)
theorem rvs.drop {c : Rc} {w : Wd} : ∀ {ds : List D} {vs : List V} (n : Nat), rvs c w ds vs → rvs c w (ds.drop n) (vs.drop n)
  | _, _, 0, h => h
  | [], _, n + 1, h => by simp only [rvs] at h; subst h; exact .nil
  | x :: ds, _, n + 1, h => by
    simp only [rvs] at h
    obtain ⟨v, r, rfl, h2, h3⟩ := h
    simp only [List.drop_succ_cons]
    exact rvs.drop n h3
theorem rvs.set {c : Rc} {w : Wd} {d : D} {v : V} (q : rv c w d v) : ∀ {ds : List D} {vs : List V} (n : Nat), rvs c w ds vs → rvs c w (ds.set n d) (vs.set n v)
  | [], _, n, h => by simp only [rvs] at h; subst h; exact .nil
  | x :: ds, _, 0, h => by
    simp only [rvs] at h
    obtain ⟨v', r, rfl, h2, h3⟩ := h
    exact .cons q h3
  | x :: ds, _, n + 1, h => by
    simp only [rvs] at h
    obtain ⟨v', r, rfl, h2, h3⟩ := h
    exact .cons h2 (rvs.set q n h3)
theorem rvs.eraseIdx {c : Rc} {w : Wd} : ∀ {ds : List D} {vs : List V} (n : Nat), rvs c w ds vs → rvs c w (ds.eraseIdx n) (vs.eraseIdx n)
  | [], _, n, h => by simp only [rvs] at h; subst h; exact .nil
  | x :: ds, _, 0, h => by
    simp only [rvs] at h
    obtain ⟨v', r, rfl, h2, h3⟩ := h
    exact h3
  | x :: ds, _, n + 1, h => by
    simp only [rvs] at h
    obtain ⟨v', r, rfl, h2, h3⟩ := h
    exact .cons h2 (rvs.eraseIdx n h3)
theorem rvs.reverse {c : Rc} {w : Wd} : ∀ {ds : List D} {vs : List V}, rvs c w ds vs → rvs c w ds.reverse vs.reverse
  | [], _, h => by simp only [rvs] at h; subst h; exact .nil
  | x :: ds, _, h => by
    simp only [rvs] at h
    obtain ⟨v', r, rfl, h2, h3⟩ := h
    simp only [List.reverse_cons]
    exact (rvs.reverse h3).append (.cons h2 .nil)

/-- the store's object d stands at a -/
def ro (c : Rc) (w : Wd) (d : D) (a : Addr) : Prop := match d with
  | .lst ds => ∃ vs, w.H a = some (.lst vs) ∧ rvs c w ds vs
  | .dic ks ds => ∃ vs, IsDic w.H a ks vs ∧ rvs c w ds vs
  | .ins k ks ds => ∃ dx vs, w.H a = some (.ins (c.cl k) dx (ks.zip vs)) ∧ ks.length = ds.length ∧ rvs c w ds vs
  | _ => False
structure Rs (c : Rc) (w : Wd) (s : Sto) : Prop where
  len : w.N = s.length
  inj : ∀ i j, i < w.N → j < w.N → w.η i = w.η j → i = j
  nz : ∀ i, i < w.N → ¬ w.Z (w.η i)
  zs : ∀ a, w.Z a → ∃ o, w.H a = some o ∧ ∀ ps, o ≠ .tbl ps
  obj : ∀ (i : Nat) (d : D), s[i]? = some d → ro c w d (w.η i)
  tabs : LamX.Tabs c.xn.tb w.H
  tz : ∀ p ∈ c.xn.tb, ¬ w.Z p.1
def re (c : Rc) (w : Wd) (env : Ev) (σ : L2.St) : Prop := env.length = σ.length ∧ ∀ (i : Nat) (d : D), env[i]? = some (some d) → ∃ v, σ[i]? = some (some v) ∧ rv c w d v
theorem re.mono {c : Rc} {w w' : Wd} {env : Ev} {σ : L2.St} (h : re c w env σ) (e : Ext w w') : re c w' env σ :=
  ⟨h.1, fun i d q => let ⟨v, a, b⟩ := h.2 i d q; ⟨v, a, b.mono e⟩⟩
theorem re.set {c : Rc} {w : Wd} {env : Ev} {σ : L2.St} (h : re c w env σ) {d : D} {v : V} (q : rv c w d v) (i : Nat) : re c w (env.set i (some d)) (σ.set i (some v)) := by
  refine ⟨by simpa using h.1, fun j e hj => ?_⟩
  by_cases hij : i = j
  · subst hij
    have hi : i < env.length := by
      have := (List.getElem?_eq_some_iff.mp hj).1
      simpa using this
    rw [List.getElem?_set_self hi] at hj
    simp only [Option.some.injEq] at hj
    subst hj
    exact ⟨v, by rw [List.getElem?_set_self (by rw [← h.1]; exact hi)], q⟩
  · rw [List.getElem?_set_ne hij] at hj ⊢
    exact h.2 j e hj
/-- an exception's own dict -/
def xr (c : Rc) (w : Wd) (k : Nat) (ds : List D) (dx : Addr) : Prop := w.Z dx ∧ ∃ vs, w.H dx = some (.xd ((c.xn.nm k).zip vs)) ∧ rvs c w ds vs
end Ir
end
section
set_option Elab.async false
set_option linter.all false
set_option maxRecDepth 100000
namespace Ir
open PySem PySem.Spec PyProof.Rows L2

section
variable {c : Rc} {W : WX} {w w' : Wd} {s : Sto} {env : Ev} {σ : L2.St} {H : Hp}
/-- how an evaluation ends, in the heap's words -/
def post (c : Rc) (W : WX) (σ : L2.St) (w : Wd) (r : R D) (Q : VK) : Prop := match r with
  | .ok d s => ∀ (w' : Wd) (v : V), Ext w w' → Rs c w' s → rv c w' d v → Q v w'.H
  | .ex k ds s => ∀ (w' : Wd) (dx : Addr), Ext w w' → Rs c w' s → xr c w' k ds dx → W (.ref (c.cl k)) (some dx) σ w'.H
  | .bad => False
def posts (c : Rc) (W : WX) (σ : L2.St) (w : Wd) (r : R (List D)) (Q : List V → Hp → Prop) : Prop := match r with
  | .ok ds s => ∀ (w' : Wd) (vs : List V), Ext w w' → Rs c w' s → rvs c w' ds vs → Q vs w'.H
  | .ex k ds s => ∀ (w' : Wd) (dx : Addr), Ext w w' → Rs c w' s → xr c w' k ds dx → W (.ref (c.cl k)) (some dx) σ w'.H
  | .bad => False
theorem post.ext {r : R D} {Q : VK} (h : post c W σ w r Q) (e : Ext w w') : post c W σ w' r Q := by
  cases r with
  | ok d s => exact fun w2 v e2 => h w2 v (e.trans e2)
  | ex k ds s => exact fun w2 dx e2 => h w2 dx (e.trans e2)
  | bad => exact h
theorem posts.ext {r : R (List D)} {Q : List V → Hp → Prop} (h : posts c W σ w r Q) (e : Ext w w') : posts c W σ w' r Q := by
  cases r with
  | ok d s => exact fun w2 v e2 => h w2 v (e.trans e2)
  | ex k ds s => exact fun w2 dx e2 => h w2 dx (e.trans e2)
  | bad => exact h
theorem post.imp {r : R D} {Q Q' : VK} (h : post c W σ w r Q) (hq : ∀ (w' : Wd) (v : V) (d : D) (s : Sto), r = .ok d s → Ext w w' → Rs c w' s → rv c w' d v → Q v w'.H → Q' v w'.H) : post c W σ w r Q' := by
  cases r with
  | ok d s => exact fun w2 v e2 r2 q2 => hq w2 v d s rfl e2 r2 q2 (h w2 v e2 r2 q2)
  | ex k ds s => exact h
  | bad => exact h
abbrev Fe := Ev → Sto → R D
abbrev Fs := Ev → Sto → R (List D)
/-- the reading of an expression that is f -/
def rd (c : Rc) (W : WX) (f : Fe) : TE := fun σ H Q => ∃ (w : Wd) (env : Ev) (s : Sto), w.H = H ∧ Rs c w s ∧ re c w env σ ∧ post c W σ w (f env s) Q
def rda (c : Rc) (W : WX) (f : Fs) : TA := fun σ H Q => ∃ (w : Wd) (env : Ev) (s : Sto), w.H = H ∧ Rs c w s ∧ re c w env σ ∧ posts c W σ w (f env s) Q
/-- first f, then g of its value -/
theorem rd_bind {f : Fe} {g : D → Ev → Sto → R D} {Q : VK} (h : rd c W (fun env s => (f env s).bind fun d s' => g d env s') σ H Q) :
    rd c W f σ H fun v H1 => ∃ (w : Wd) (env : Ev) (s : Sto) (d : D), w.H = H1 ∧ Rs c w s ∧ re c w env σ ∧ rv c w d v ∧ post c W σ w (g d env s) Q := by
  obtain ⟨w, env, s, hw, hs, he, hp⟩ := h
  dsimp only at hp
  refine ⟨w, env, s, hw, hs, he, ?_⟩
  cases hf : f env s with
  | ok d s' =>
    rw [hf] at hp
    exact fun w2 v e2 r2 q2 => ⟨w2, env, s', d, rfl, r2, he.mono e2, q2, post.ext (r := g d env s') hp e2⟩
  | ex k ds s' =>
    rw [hf] at hp
    exact hp
  | bad =>
    rw [hf] at hp
    exact hp
theorem rda_nil {Q : List V → Hp → Prop} (h : rda c W (fun _ s => .ok [] s) σ H Q) : tNil σ H Q := by
  obtain ⟨w, env, s, rfl, hs, he, hp⟩ := h
  exact hp w [] (.refl w) hs .nil
theorem rda_cons {f : Fe} {fs : Fs} {Q : List V → Hp → Prop} (h : rda c W (fun env s => (f env s).bind fun d s' => (fs env s').bind fun ds s'' => .ok (d :: ds) s'') σ H Q) :
    tCons (rd c W f) (rda c W fs) σ H Q := by
  obtain ⟨w, env, s, hw, hs, he, hp⟩ := h
  dsimp only at hp
  refine ⟨w, env, s, hw, hs, he, ?_⟩
  cases hf : f env s with
  | ok d s' =>
    rw [hf] at hp
    have hp : posts c W σ w ((fs env s').bind fun ds s'' => .ok (d :: ds) s'') Q := hp
    refine fun w2 v e2 r2 q2 => ⟨w2, env, s', rfl, r2, he.mono e2, ?_⟩
    cases hg : fs env s' with
    | ok ds s'' =>
      rw [hg] at hp
      have hp : posts c W σ w (.ok (d :: ds) s'') Q := hp
      exact fun w3 vs e3 r3 q3 => hp w3 (v :: vs) (e2.trans e3) r3 (.cons (q2.mono e3) q3)
    | ex k ds s' =>
      rw [hg] at hp
      have hp : posts c W σ w (.ex k ds s') Q := hp
      exact fun w3 dx e3 => hp w3 dx (e2.trans e3)
    | bad =>
      rw [hg] at hp
      exact hp
  | ex k ds s' =>
    rw [hf] at hp
    exact hp
  | bad =>
    rw [hf] at hp
    exact hp
/-! ### a new object -/
/-- kept as it is from now on -/
def Wd.frz (w : Wd) (p : Addr) (o : HO) : Wd := { w with Z := fun a => w.Z a ∨ a = p, H := upd w.H p o }
def Wd.lay (w : Wd) (p : Addr) (o : HO) : Wd := { w with H := upd w.H p o }
def Wd.new (w : Wd) (p : Addr) (o : HO) : Wd := { w with η := fun i => if i = w.N then p else w.η i, N := w.N + 1, H := upd w.H p o }
def NoTab (u : Option HO) : Prop := (∀ ps, u ≠ some (.tbl ps)) ∧ ∀ f, u ≠ some (.ext f)
theorem NoTab.none : NoTab none := ⟨fun _ h => (by cases h), fun _ h => (by cases h)⟩
theorem tabs_upd {T : List (Addr × Str)} {H : Hp} {p : Addr} {o : HO} (t : LamX.Tabs T H) (n : NoTab (H p)) : LamX.Tabs T (upd H p o) := fun q hq => by
  obtain ⟨ps, h1, h2, h3⟩ := t q hq
  have ne : q.1 ≠ p := fun e => n.1 ps (e ▸ h1)
  refine ⟨ps, (upd_ne ne).trans h1, h2, fun pos cv hc => ?_⟩
  obtain ⟨b, e1, e2⟩ := h3 pos cv hc
  exact ⟨b, e1, (upd_ne fun e => n.2 _ ((congrArg H e).symm.trans e2)).trans e2⟩
theorem tab_ne {T : List (Addr × Str)} {H : Hp} {p : Addr} (t : LamX.Tabs T H) (n : NoTab (H p)) : ∀ q ∈ T, q.1 ≠ p := fun q hq e => by
  obtain ⟨ps, h1, _⟩ := t q hq
  exact n.1 ps (e ▸ h1)
theorem ro.noTab {d : D} {a : Addr} (h : ro c w d a) : NoTab (w.H a) := by
  cases d <;> try exact h.elim
  · obtain ⟨vs, e, _⟩ := h; rw [e]; exact ⟨fun _ h => (by cases h), fun _ h => (by cases h)⟩
  · obtain ⟨vs, e, _⟩ := h
    rcases e with ⟨kvs, e, _⟩ | ⟨kvs, e, _⟩ <;> rw [e] <;> exact ⟨fun _ h => (by cases h), fun _ h => (by cases h)⟩
  · obtain ⟨dx, vs, e, _⟩ := h; rw [e]; exact ⟨fun _ h => (by cases h), fun _ h => (by cases h)⟩
theorem Rs.hn (hs : Rs c w s) {a : Addr} (n : w.H a = none) : ¬ w.Z a := fun z => by
  obtain ⟨o, e, _⟩ := hs.zs a z
  rw [n] at e; cases e
theorem Rs.at_ (hs : Rs c w s) {i : Nat} (h : i < w.N) : ∃ d, s[i]? = some d ∧ ro c w d (w.η i) := by
  rw [hs.len] at h
  exact ⟨s[i], by simp [h], hs.obj i _ (by simp [h])⟩
theorem ro.some {d : D} {a : Addr} (h : ro c w d a) : ∃ o, w.H a = some o ∧ L2.Mut (some o) := by
  cases d <;> try exact h.elim
  · obtain ⟨vs, e, _⟩ := h; exact ⟨_, e, trivial⟩
  · obtain ⟨vs, e, _⟩ := h
    rcases e with ⟨kvs, e, _⟩ | ⟨kvs, e, _⟩
    · exact ⟨_, e, trivial⟩
    · exact ⟨_, e, trivial⟩
  · obtain ⟨dx, vs, e, _⟩ := h; exact ⟨_, e, trivial⟩
theorem Rs.ne (hs : Rs c w s) {i : Nat} (h : i < w.N) {p : Addr} (n : w.H p = none) : w.η i ≠ p := fun e => by
  obtain ⟨d, _, r⟩ := hs.at_ h
  obtain ⟨o, q, _⟩ := ro.some r
  rw [e, n] at q; cases q
theorem ro.mono {d : D} {a : Addr} (h : ro c w d a) (e : Ext w w') (k : w'.H a = w.H a) : ro c w' d a := by
  cases d <;> try exact h.elim
  · obtain ⟨vs, e1, r⟩ := h; exact ⟨vs, k.trans e1, r.mono e⟩
  · obtain ⟨vs, e1, r⟩ := h
    refine ⟨vs, ?_, r.mono e⟩
    unfold IsDic at e1 ⊢
    rw [k]; exact e1
  · obtain ⟨dx, vs, e1, l, r⟩ := h; exact ⟨dx, vs, k.trans e1, l, r.mono e⟩
theorem Ext.frz {p : Addr} {o : HO} (hs : Rs c w s) (n : w.H p = none) : Ext w (w.frz p o) where
  n := Nat.le_refl _
  eta := fun _ _ => rfl
  z := fun a h => .inl h
  h := fun a h => upd_ne fun e : a = p => hs.hn n (e ▸ h)
  t := fun a xs h => (upd_ne (ne_of_none h n)).trans h
  f := fun a o u h => (upd_ne (ne_of_none h n)).trans h
theorem Rs.frz {p : Addr} {o : HO} (hs : Rs c w s) (n : w.H p = none) (ho : ∀ ps, o ≠ .tbl ps) : Rs c (w.frz p o) s where
  len := hs.len
  inj := hs.inj
  nz := fun i h z => z.elim (hs.nz i h) (hs.ne h n)
  zs := fun a z => by
    by_cases e : a = p
    · subst e; exact ⟨o, upd_same, ho⟩
    · obtain ⟨u, q, nt⟩ := hs.zs a (z.resolve_right e)
      exact ⟨u, (upd_ne e).trans q, nt⟩
  obj := fun i d h => by
    have hi : i < w.N := by rw [hs.len]; exact (List.getElem?_eq_some_iff.mp h).1
    exact (hs.obj i d h).mono (.frz hs n) (upd_ne (hs.ne hi n))
  tabs := tabs_upd hs.tabs (n ▸ .none)
  tz := fun q hq z => z.elim (hs.tz q hq) (tab_ne hs.tabs (n ▸ .none) q hq)
theorem Ext.lay {p : Addr} {o : HO} (hs : Rs c w s) (n : w.H p = none) : Ext w (w.lay p o) where
  n := Nat.le_refl _
  eta := fun _ _ => rfl
  z := fun a h => h
  h := fun a h => upd_ne fun e : a = p => hs.hn n (e ▸ h)
  t := fun a xs h => (upd_ne (ne_of_none h n)).trans h
  f := fun a o u h => (upd_ne (ne_of_none h n)).trans h
theorem Rs.lay {p : Addr} {o : HO} (hs : Rs c w s) (n : w.H p = none) : Rs c (w.lay p o) s where
  len := hs.len
  inj := hs.inj
  nz := hs.nz
  zs := fun a z => by
    obtain ⟨u, q, nt⟩ := hs.zs a z
    exact ⟨u, (upd_ne fun e : a = p => hs.hn n (e ▸ z)).trans q, nt⟩
  obj := fun i d h => by
    have hi : i < w.N := by rw [hs.len]; exact (List.getElem?_eq_some_iff.mp h).1
    exact (hs.obj i d h).mono (.lay hs n) (upd_ne (hs.ne hi n))
  tabs := tabs_upd hs.tabs (n ▸ .none)
  tz := hs.tz
theorem Ext.new {p : Addr} {o : HO} (hs : Rs c w s) (n : w.H p = none) : Ext w (w.new p o) where
  n := Nat.le_succ _
  eta := fun i h => if_neg (Nat.ne_of_lt h)
  z := fun a h => h
  h := fun a h => upd_ne fun e : a = p => hs.hn n (e ▸ h)
  t := fun a xs h => (upd_ne (ne_of_none h n)).trans h
  f := fun a o u h => (upd_ne (ne_of_none h n)).trans h
theorem new_eta {p : Addr} {o : HO} : (w.new p o).η w.N = p := if_pos rfl
theorem new_etaL {p : Addr} {o : HO} {i : Nat} (h : i < w.N) : (w.new p o).η i = w.η i := if_neg (Nat.ne_of_lt h)
theorem Rs.new {p : Addr} {o : HO} {d : D} (hs : Rs c w s) (n : w.H p = none) (hd : ro c (w.new p o) d p) : Rs c (w.new p o) (s ++ [d]) where
  len := by show w.N + 1 = _; rw [hs.len, List.length_append]; rfl
  inj := fun i j hi hj e => by
    have hi : i < w.N + 1 := hi
    have hj : j < w.N + 1 := hj
    by_cases e1 : i = w.N
    · by_cases e2 : j = w.N
      · rw [e1, e2]
      · have hj' : j < w.N := by omega
        rw [e1, new_eta, new_etaL hj'] at e
        exact absurd e.symm (hs.ne hj' n)
    · have hi' : i < w.N := by omega
      by_cases e2 : j = w.N
      · rw [e2, new_eta, new_etaL hi'] at e
        exact absurd e (hs.ne hi' n)
      · have hj' : j < w.N := by omega
        rw [new_etaL hi', new_etaL hj'] at e
        exact hs.inj i j hi' hj' e
  nz := fun i hi z => by
    have hi : i < w.N + 1 := hi
    have z : w.Z ((w.new p o).η i) := z
    by_cases e1 : i = w.N
    · rw [e1, new_eta] at z; exact hs.hn n z
    · have hi' : i < w.N := by omega
      rw [new_etaL hi'] at z
      exact hs.nz i hi' z
  zs := fun a z => by
    obtain ⟨u, q, nt⟩ := hs.zs a z
    exact ⟨u, (upd_ne fun e : a = p => hs.hn n (e ▸ z)).trans q, nt⟩
  obj := fun i e h => by
    by_cases hi : i < s.length
    · rw [List.getElem?_append_left hi] at h
      have hi' : i < w.N := by rw [hs.len]; exact hi
      rw [new_etaL hi']
      exact (hs.obj i e h).mono (.new hs n) (upd_ne (hs.ne hi' n))
    · have hl := (List.getElem?_eq_some_iff.mp h).1
      rw [List.length_append] at hl
      have hl : i < s.length + 1 := hl
      have hi' : i = s.length := by omega
      subst hi'
      rw [List.getElem?_append_right (Nat.le_refl _)] at h
      simp only [Nat.sub_self, List.getElem?_cons_zero, Option.some.injEq] at h
      subst h
      rw [← hs.len, new_eta]
      exact hd
  tabs := tabs_upd hs.tabs (n ▸ .none)
  tz := hs.tz
/-- the store's object i is written -/
theorem Ext.write {i : Nat} {o : HO} (hs : Rs c w s) (hi : i < w.N) : Ext w (w.lay (w.η i) o) := by
  obtain ⟨d, _, r⟩ := hs.at_ hi
  obtain ⟨o', q, m⟩ := ro.some r
  exact ⟨Nat.le_refl _, fun _ _ => rfl, fun a h => h, fun a h => upd_ne fun e : a = w.η i => hs.nz i hi (e ▸ h), fun a xs h => (upd_ne fun e => by rw [e, q] at h; cases h; exact m).trans h, fun a o u h => (upd_ne fun e => by rw [e, q] at h; cases h; exact m).trans h⟩
theorem Rs.write {i : Nat} {o : HO} {d : D} (hs : Rs c w s) (hi : i < w.N) (hd : ro c (w.lay (w.η i) o) d (w.η i)) : Rs c (w.lay (w.η i) o) (s.set i d) where
  len := by rw [List.length_set]; exact hs.len
  inj := hs.inj
  nz := hs.nz
  zs := fun a z => by
    obtain ⟨u, q, nt⟩ := hs.zs a z
    exact ⟨u, (upd_ne fun e : a = w.η i => hs.nz i hi (e ▸ z)).trans q, nt⟩
  obj := fun j e h => by
    have hj : j < w.N := by
      rw [hs.len]
      have := (List.getElem?_eq_some_iff.mp h).1
      rwa [List.length_set] at this
    by_cases e1 : i = j
    · subst e1
      rw [List.getElem?_set_self (by rw [← hs.len]; exact hi)] at h
      simp only [Option.some.injEq] at h
      subst h
      exact hd
    · rw [List.getElem?_set_ne e1] at h
      exact (hs.obj j e h).mono (.write hs hi) (upd_ne fun q => e1 (hs.inj j i hj hi q).symm)
  tabs := by
    obtain ⟨e, _, r⟩ := hs.at_ hi
    exact tabs_upd hs.tabs r.noTab
  tz := hs.tz
end
end Ir
end
section
set_option Elab.async false
set_option linter.all false
set_option maxRecDepth 100000
namespace Ir
open PySem PySem.Spec PyProof.Rows L2

/-! ### what a value shows -/
def look (s : Sto) (d : D) : D := match d with
  | .ref n => s[n]?.getD .non
  | d => d
section
variable {c : Rc} {w : Wd} {s : Sto}
theorem lst_view {d : D} {v : V} {ds : List D} (hs : Rs c w s) (h : rv c w d v) (l : look s d = .lst ds) : ∃ a vs, v = .ref a ∧ w.H a = some (.lst vs) ∧ rvs c w ds vs := by
  cases d <;> simp only [look] at l <;> try cases l
  · simp only [rv] at h
    obtain ⟨a, vs, h1, h2, h3⟩ := h
    exact ⟨a, vs, h1, h2.2, h3⟩
  · rename_i n
    simp only [rv] at h
    obtain ⟨hn, rfl⟩ := h
    obtain ⟨e, q, r⟩ := hs.at_ hn
    rw [q] at l
    simp only [Option.getD_some] at l
    subst l
    obtain ⟨vs, h1, h2⟩ := r
    exact ⟨_, vs, rfl, h1, h2⟩
theorem tup_view {d : D} {v : V} {ds : List D} (hs : Rs c w s) (h : rv c w d v) (l : look s d = .tup ds) : ∃ a vs, v = .ref a ∧ TzT c w a vs ∧ rvs c w ds vs := by
  cases d <;> simp only [look] at l <;> try cases l
  · simp only [rv] at h
    exact h
  · rename_i n
    simp only [rv] at h
    obtain ⟨hn, rfl⟩ := h
    obtain ⟨e, q, r⟩ := hs.at_ hn
    rw [q] at l
    simp only [Option.getD_some] at l
    subst l
    exact r.elim
theorem look_lst {d : D} {v : V} {ds : List D} (hs : Rs c w s) (h : rv c w d v) (l : look s d = .lst ds) : ∃ a vs, v = .ref a ∧ SqL c.K w.H a vs ∧ rvs c w ds vs :=
  let ⟨a, vs, h1, h2, h3⟩ := lst_view hs h l
  ⟨a, vs, h1, .inl (.inl h2), h3⟩
/-- every value that is read -/
theorem look_ref {d : D} (h : ∀ n, d ≠ .ref n) : look s d = d := by cases d <;> first | rfl | exact absurd rfl (h _)
theorem klst_view {d : D} {v : V} {ds : List D} (hs : Rs c w s) (h : rv c w d v) (l : look s d = .klst ds) : ∃ a vs, v = .ref a ∧ SqL c.K w.H a vs ∧ rvs c w ds vs := by
  cases d <;> simp only [look] at l <;> try cases l
  · simp only [rv] at h
    obtain ⟨a, vs, h1, h2, h3⟩ := h
    exact ⟨a, vs, h1, h2.sq, h3⟩
  · rename_i n
    simp only [rv] at h
    obtain ⟨hn, rfl⟩ := h
    obtain ⟨e, q, r⟩ := hs.at_ hn
    rw [q] at l
    simp only [Option.getD_some] at l
    subst l
    exact r.elim
end
/-- the items of a list or a tuple -/
def seqOf (s : Sto) (d : D) : Option (List D) := match look s d with
  | .lst ds => some ds
  | .klst ds => some ds
  | .tup ds => some ds
  | _ => none
theorem seq_view {c : Rc} {w : Wd} {s : Sto} {d : D} {v : V} {ds : List D} (hs : Rs c w s) (h : rv c w d v) (l : seqOf s d = some ds) : ∃ a vs, v = .ref a ∧ (SqL c.K w.H a vs ∨ SqT c.K w.H a vs) ∧ rvs c w ds vs := by
  unfold seqOf at l
  split at l <;> try cases l
  · obtain ⟨a, vs, h1, h2, h3⟩ := look_lst hs h (by assumption)
    exact ⟨a, vs, h1, .inl h2, h3⟩
  · obtain ⟨a, vs, h1, h2, h3⟩ := klst_view hs h (by assumption)
    exact ⟨a, vs, h1, .inl h2, h3⟩
  · obtain ⟨a, vs, h1, h2, h3⟩ := tup_view hs h (by assumption)
    exact ⟨a, vs, h1, .inr h2.sq, h3⟩

/-! ### deep data -/
mutual
def pd : D → Option PyData
  | .non => some .none
  | .bl b => some (.bool b)
  | .int i => some (.int i)
  | .str x => some (.str x)
  | .tup ds => (pds ds).map .tuple
  | .lst ds => (pds ds).map .list
  | _ => none
def pds : List D → Option (List PyData)
  | [] => some []
  | d :: ds => (pd d).bind fun p => (pds ds).map fun ps => p :: ps
end
mutual
theorem pd_dp {c : Rc} {w : Wd} : ∀ (d : D) (p : PyData) (v : V), pd d = some p → rv c w d v → Dp c.K w.H v p
  | .non, p, v, e, h => by simp only [pd, Option.some.injEq] at e; simp only [rv] at h; subst e h; exact .non
  | .bl b, p, v, e, h => by simp only [pd, Option.some.injEq] at e; simp only [rv] at h; subst e h; exact .bl b
  | .int i, p, v, e, h => by simp only [pd, Option.some.injEq] at e; simp only [rv] at h; subst e h; exact .int i
  | .str x, p, v, e, h => by simp only [pd, Option.some.injEq] at e; simp only [rv] at h; subst e h; exact .str x
  | .tup ds, p, v, e, h => by
    simp only [pd, Option.map_eq_some_iff] at e
    obtain ⟨ps, e, rfl⟩ := e
    simp only [rv] at h
    obtain ⟨a, vs, rfl, h2, h3⟩ := h
    exact .tup h2.sq (pds_dp ds ps vs e h3)
  | .lst ds, p, v, e, h => by
    simp only [pd, Option.map_eq_some_iff] at e
    obtain ⟨ps, e, rfl⟩ := e
    simp only [rv] at h
    obtain ⟨a, vs, rfl, h2, h3⟩ := h
    exact .lst (.inl (.inl h2.2)) (pds_dp ds ps vs e h3)
  | .klst _, _, _, e, _ => by simp [pd] at e
  | .dic _ _, _, _, e, _ => by simp [pd] at e
  | .set _, _, _, e, _ => by simp [pd] at e
  | .ins _ _ _, _, _, e, _ => by simp [pd] at e
  | .ref _, _, _, e, _ => by simp [pd] at e
  | .cls _, _, _, e, _ => by simp [pd] at e
  | .ty _, _, _, e, _ => by simp [pd] at e
theorem pds_dp {c : Rc} {w : Wd} : ∀ (ds : List D) (ps : List PyData) (vs : List V), pds ds = some ps → rvs c w ds vs → DpAll c.K w.H vs ps
  | [], ps, vs, e, h => by simp only [pds, Option.some.injEq] at e; simp only [rvs] at h; subst e h; exact .nil
  | d :: ds, ps, vs, e, h => by
    simp only [pds, Option.bind_eq_some_iff, Option.map_eq_some_iff] at e
    obtain ⟨p, e1, qs, e2, rfl⟩ := e
    simp only [rvs] at h
    obtain ⟨v, r, rfl, h2, h3⟩ := h
    exact .cons (pd_dp d p v e1 h2) (pds_dp ds qs r e2 h3)
end
/-- data that is compared: a list of the store as it stands -/
def pdL (s : Sto) (d : D) : Option PyData := (pd (look s d)).filter SeqAt.shaped
theorem pdL_dp {c : Rc} {w : Wd} {s : Sto} {d : D} {p : PyData} {v : V} (hs : Rs c w s) (e : pdL s d = some p) (h : rv c w d v) : Dp c.K w.H v p ∧ SeqAt.shaped p = true := by
  unfold pdL at e
  rw [Option.filter_eq_some_iff] at e
  refine ⟨?_, e.2⟩
  replace e := e.1
  by_cases q : ∃ n, d = .ref n
  · obtain ⟨n, rfl⟩ := q
    have h' := h
    simp only [rv] at h
    obtain ⟨hn, rfl⟩ := h
    obtain ⟨x, q, r⟩ := hs.at_ hn
    have ex : look s (.ref n) = x := by simp only [look, q, Option.getD_some]
    rw [ex] at e
    cases x <;> try exact r.elim
    · rename_i ds
      obtain ⟨vs, h1, h2⟩ := r
      simp only [pd, Option.map_eq_some_iff] at e
      obtain ⟨ps, e5, rfl⟩ := e
      exact .lst (.inl (.inl h1)) (pds_dp ds ps vs e5 h2)
    · simp [pd] at e
    · simp [pd] at e
  · rw [look_ref fun n e => q ⟨n, e⟩] at e
    exact pd_dp d p v e h

/-! ### pure operations: an answer and the store, or nothing -/
abbrev Po := Option (D × Sto)
def po (c : Rc) (w : Wd) (r : Po) (Q : VK) : Prop := match r with
  | some (d, s) => ∀ (w' : Wd) (v : V), Ext w w' → Rs c w' s → rv c w' d v → Q v w'.H
  | none => False
def ofPo (r : Po) : R D := match r with
  | some (d, s) => .ok d s
  | none => .bad
theorem post_of {c : Rc} {W : WX} {σ : L2.St} {w : Wd} {r : Po} {Q : VK} (h : post c W σ w (ofPo r) Q) : po c w r Q := by
  cases r with
  | none => exact h
  | some q => exact h
/-- a value alone -/
def ret (s : Sto) (d : D) : Po := some (d, s)
theorem po_ret {c : Rc} {w : Wd} {s : Sto} {d : D} {Q : VK} {v : V} (hs : Rs c w s) (r : rv c w d v) (h : po c w (ret s d) Q) : Q v w.H := h w v (.refl w) hs r
/-- a new list: one that may change (m), or one that stays -/
def newL (m : Bool) (s : Sto) (ds : List D) : Po := if m then some (.ref s.length, s ++ [.lst ds]) else some (.lst ds, s)
theorem po_newL {c : Rc} {w : Wd} {s : Sto} {ds : List D} {m : Bool} {Q : VK} {vs : List V} {p : Addr} (hs : Rs c w s) (r : rvs c w ds vs) (n : w.H p = none) (h : po c w (newL m s ds) Q) : Q (.ref p) (upd w.H p (.lst vs)) := by
  unfold newL at h
  cases m with
  | false =>
    refine h (w.frz p (.lst vs)) (.ref p) (.frz hs n) (.frz hs n fun ps e => by cases e) ?_
    simp only [rv]
    exact ⟨p, vs, rfl, ⟨.inr rfl, upd_same⟩, r.mono (.frz hs n)⟩
  | true =>
    refine h (w.new p (.lst vs)) (.ref p) (.new hs n) (.new hs n ⟨vs, upd_same, r.mono (.new hs n)⟩) ?_
    simp only [rv]
    rw [← hs.len]
    exact ⟨Nat.lt_succ_self _, by rw [new_eta]⟩
def newT (s : Sto) (ds : List D) : Po := some (.tup ds, s)
theorem po_newT {c : Rc} {w : Wd} {s : Sto} {ds : List D} {Q : VK} {vs : List V} {p : Addr} (hs : Rs c w s) (r : rvs c w ds vs) (n : w.H p = none) (h : po c w (newT s ds) Q) : Q (.ref p) (upd w.H p (.tup vs)) := by
  refine h (w.lay p (.tup vs)) (.ref p) (.lay hs n) (.lay hs n) ?_
  simp only [rv]
  exact ⟨p, vs, rfl, .inl upd_same, r.mono (.lay hs n)⟩
/-- a list of the store is written -/
theorem po_setL {c : Rc} {w : Wd} {s : Sto} {ds : List D} {Q : VK} {vs : List V} {n : Nat} {d : D} {v : V} (hs : Rs c w s) (hn : n < w.N) (r : rvs c w ds vs) (rd : rv c w d v) (h : po c w (some (d, s.set n (.lst ds))) Q) : Q v (upd w.H (w.η n) (.lst vs)) :=
  h (w.lay (w.η n) (.lst vs)) v (.write hs hn) (.write hs hn ⟨vs, upd_same, r.mono (.write hs hn)⟩) (rv.mono (.write hs hn) _ _ rd)
end Ir
end
section
set_option Elab.async false
set_option linter.all false
set_option maxRecDepth 100000
namespace Ir
open PySem PySem.Spec PyProof.Rows L2

inductive O2 where
  | add (m : Bool) | sub | mul | fdiv | mod | pow | eq | ne | lt | le | gt | ge | isn | notn | isb | notb | in_ | notin | ix
def mulOk (i j : Int) : Bool := decide (i.natAbs < 2 ^ 64) || decide (j.natAbs < 2 ^ 64) || decide (i.natAbs.log2 + j.natAbs.log2 < 1000000)
def isNon : D → Bool
  | .non => true
  | _ => false
def flatP : PyData → Bool
  | .none => true | .bool _ => true | .int _ => true | .str _ => true | _ => false
def apAdd (m : Bool) (s : Sto) (d e : D) : Po := match d, e with
  | .int i, .int j => ret s (.int (i + j))
  | .str x, .str y => if x.length + y.length ≤ sizeLine then ret s (.str (x ++ y)) else none
  | d, e => match look s d, look s e with
    | .tup xs, .tup ys => if xs.length + ys.length ≤ sizeLine then newT s (xs ++ ys) else none
    | .lst xs, .lst ys => if xs.length + ys.length ≤ sizeLine then newL m s (xs ++ ys) else none
    | _, _ => none
def apI (s : Sto) (d e : D) (f : Int → Int → Po) : Po := match d, e with
  | .int i, .int j => f i j
  | _, _ => none
def apIn (s : Sto) (d e : D) : Option Bool := match d, e with
  | .str x, .str y => some (!(Builtin.Str.occurrences y x 0 y.length 1).isEmpty)
  | d, e => match pdL s d, pdL s e with
    | some p, some (.list qs) => some (qs.any fun z => PyData.eqv z p)
    | some p, some (.tuple qs) => if flatP p && qs.all flatP then some (qs.any fun z => PyData.eqv z p) else none
    | _, _ => none
def apIx (s : Sto) (d e : D) : Po := match d, e with
  | .str z, .int i => if z.length ≤ sizeLine then (atI z.cps.toList i).bind fun ch => ret s (.str ⟨#[ch]⟩) else none
  | d, .int i => (seqOf s d).bind fun ds => (atI ds i).bind fun x => ret s x
  | _, _ => none
def apIsn (s : Sto) (d e : D) (neg : Bool) : Po := match e with
  | .non => ret s (.bl (if neg then !isNon d else isNon d))
  | _ => none
def apIsb (s : Sto) (d e : D) (neg : Bool) : Po := match d, e with
  | .bl a, .bl b => ret s (.bl (if neg then !decide (a = b) else decide (a = b)))
  | _, _ => none
def ap2 (o : O2) (s : Sto) (d e : D) : Po := match o with
  | .add m => apAdd m s d e
  | .sub => apI s d e fun i j => ret s (.int (i - j))
  | .mul => apI s d e fun i j => if mulOk i j then ret s (.int (i * j)) else none
  | .fdiv => apI s d e fun i j => if 0 < j ∧ j.natAbs.log2 < 9000 then ret s (.int (i / j)) else none
  | .mod => apI s d e fun i j => if 0 < j then ret s (.int (i % j)) else none
  | .pow => apI s d e fun i j => if 0 ≤ j ∧ j ≤ 1000000 ∧ i.natAbs < 2 ^ 64 then ret s (.int (i ^ j.toNat)) else none
  | .lt => apI s d e fun i j => ret s (.bl (decide (i < j)))
  | .le => apI s d e fun i j => ret s (.bl (decide (i ≤ j)))
  | .gt => apI s d e fun i j => ret s (.bl (decide (j < i)))
  | .ge => apI s d e fun i j => ret s (.bl (decide (j ≤ i)))
  | .eq => (pdL s d).bind fun p => (pdL s e).bind fun q => ret s (.bl (PyData.eqv p q))
  | .ne => (pdL s d).bind fun p => (pdL s e).bind fun q => ret s (.bl (!PyData.eqv p q))
  | .isn => apIsn s d e false
  | .notn => apIsn s d e true
  | .isb => apIsb s d e false
  | .notb => apIsb s d e true
  | .in_ => (apIn s d e).bind fun b => ret s (.bl b)
  | .notin => (apIn s d e).bind fun b => ret s (.bl (!b))
  | .ix => apIx s d e

abbrev cx (X : Cx) (cl : Nat → Addr) (xn : Xn) : Rc := ⟨X.K, cl, xn⟩
/-- a two-place operation by its meaning -/
def r2 (c : Rc) (o : O2) : R2 := fun x y H Q => ∃ (w : Wd) (s : Sto) (d e : D), w.H = H ∧ Rs c w s ∧ rv c w d x ∧ rv c w e y ∧ po c w (ap2 o s d e) Q
section
variable {X : Cx} {cl : Nat → Addr} {xn : Xn}
theorem rv_non {c : Rc} {w : Wd} {d : D} {v : V} (h : rv c w d v) : decide (v = .non) = isNon d := by
  cases d <;> simp only [rv] at h <;> first
    | (subst h; rfl)
    | (obtain ⟨a, vs, rfl, _⟩ := h; rfl)
    | (obtain ⟨a, dx, vs, rfl, _⟩ := h; rfl)
    | (obtain ⟨_, rfl⟩ := h; rfl)
    | exact h.elim
theorem apI_inv {c : Rc} {w : Wd} {s : Sto} {d e : D} {f : Int → Int → Po} {Q : VK} {x y : V} (hd : rv c w d x) (he : rv c w e y) (h : po c w (apI s d e f) Q) : ∃ i j, x = .int i ∧ y = .int j ∧ po c w (f i j) Q := by
  unfold apI at h
  split at h
  · simp only [rv] at hd he
    exact ⟨_, _, hd, he, h⟩
  · exact h.elim
theorem po_if {c : Rc} {w : Wd} {p : Prop} [Decidable p] {r : Po} {Q : VK} (h : po c w (if p then r else none) Q) : p ∧ po c w r Q := by
  by_cases hp : p
  · rw [if_pos hp] at h; exact ⟨hp, h⟩
  · rw [if_neg hp] at h; exact h.elim
theorem po_bind {α : Type} {c : Rc} {w : Wd} {o : Option α} {f : α → Po} {Q : VK} (h : po c w (o.bind f) Q) : ∃ a, o = some a ∧ po c w (f a) Q := by
  cases o with
  | none => exact h.elim
  | some a => exact ⟨a, rfl, h⟩
theorem o_int {f : Value → Value → Sem Value} {C : Int → Int → Prop} {g : Int → Int → V} (o : O2) (hr : OpR X f (rI C g)) (k : ∀ {w : Wd} {s : Sto} {d e : D} {Q : VK} {x y : V}, Rs (cx X cl xn) w s → rv (cx X cl xn) w d x → rv (cx X cl xn) w e y →
    po (cx X cl xn) w (ap2 o s d e) Q → ∃ i j, x = .int i ∧ y = .int j ∧ C i j ∧ Q (g i j) w.H) : OpR X f (r2 (cx X cl xn) o) := by
  intro pins s σ H x y v u Q I rx ry h
  obtain ⟨w, st, d, e, rfl, hs, hd, he, hp⟩ := h
  exact hr pins s σ w.H x y v u Q I rx ry (k hs hd he hp)
theorem rv_int {c : Rc} {w : Wd} {i : Int} : rv c w (.int i) (.int i) := by simp only [rv]
theorem rv_bl {c : Rc} {w : Wd} {b : Bool} : rv c w (.bl b) (.bl b) := by simp only [rv]
theorem rv_str {c : Rc} {w : Wd} {x : Str} : rv c w (.str x) (.str x) := by simp only [rv]
theorem rv_nonD {c : Rc} {w : Wd} : rv c w .non .non := by simp only [rv]
theorem o_int0 {f : Value → Value → Sem Value} {g : Int → Int → V} {G : Int → Int → D} (o : O2) (hr : OpR X f (rI0 g)) (ho : ∀ s d e, ap2 o s d e = apI s d e fun i j => ret s (G i j)) (hg : ∀ c w i j, rv c w (G i j) (g i j)) : OpR X f (r2 (cx X cl xn) o) := by
  intro pins s σ H x y v u Q I rx ry h
  obtain ⟨w, st, d, e, rfl, hs, hd, he, hp⟩ := h
  rw [ho] at hp
  obtain ⟨i, j, rfl, rfl, hp⟩ := apI_inv hd he hp
  exact hr pins s σ w.H _ _ v u Q I rx ry ⟨i, j, rfl, rfl, po_ret hs (hg _ _ _ _) hp⟩
theorem o2_sub : OpR X (binaryOp .Sub) (r2 (cx X cl xn) .sub) := o_int0 .sub op_sub (fun _ _ _ => rfl) fun _ _ _ _ => rv_int
theorem o2_lt : OpR X (compareOp .Lt) (r2 (cx X cl xn) .lt) := o_int0 .lt op_lt (fun _ _ _ => rfl) fun _ _ _ _ => rv_bl
theorem o2_le : OpR X (compareOp .LtE) (r2 (cx X cl xn) .le) := o_int0 .le op_le (fun _ _ _ => rfl) fun _ _ _ _ => rv_bl
theorem o2_gt : OpR X (compareOp .Gt) (r2 (cx X cl xn) .gt) := o_int0 .gt op_gt (fun _ _ _ => rfl) fun _ _ _ _ => rv_bl
theorem o2_ge : OpR X (compareOp .GtE) (r2 (cx X cl xn) .ge) := o_int0 .ge op_ge (fun _ _ _ => rfl) fun _ _ _ _ => rv_bl
theorem o2_mul : OpR X (binaryOp .Mult) (r2 (cx X cl xn) .mul) := by
  intro pins s σ H x y v u Q I rx ry h
  obtain ⟨w, st, d, e, rfl, hs, hd, he, hp⟩ := h
  obtain ⟨i, j, rfl, rfl, hp⟩ := apI_inv hd he (show po _ w (apI st d e fun i j => if mulOk i j then ret st (.int (i * j)) else none) Q from hp)
  obtain ⟨hm, hp⟩ := po_if hp
  have q := po_ret hs rv_int hp
  unfold mulOk at hm
  simp only [Bool.or_eq_true, decide_eq_true_eq] at hm
  rcases hm with (hm | hm) | hm
  · exact op_mul pins s σ w.H _ _ v u Q I rx ry ⟨i, j, rfl, rfl, .inl ⟨by omega, by omega⟩, q⟩
  · exact op_mul pins s σ w.H _ _ v u Q I rx ry ⟨i, j, rfl, rfl, .inr ⟨by omega, by omega⟩, q⟩
  · exact op_mulW pins s σ w.H _ _ v u Q I rx ry ⟨i, j, rfl, rfl, hm, q⟩
theorem o2_fdiv : OpR X (binaryOp .FloorDiv) (r2 (cx X cl xn) .fdiv) := by
  intro pins s σ H x y v u Q I rx ry h
  obtain ⟨w, st, d, e, rfl, hs, hd, he, hp⟩ := h
  obtain ⟨i, j, rfl, rfl, hp⟩ := apI_inv hd he (show po _ w (apI st d e fun i j => if 0 < j ∧ j.natAbs.log2 < 9000 then ret st (.int (i / j)) else none) Q from hp)
  obtain ⟨hm, hp⟩ := po_if hp
  exact op_fdivW pins s σ w.H _ _ v u Q I rx ry ⟨i, j, rfl, rfl, hm, po_ret hs rv_int hp⟩
theorem o2_mod : OpR X (binaryOp .Mod) (r2 (cx X cl xn) .mod) := by
  intro pins s σ H x y v u Q I rx ry h
  obtain ⟨w, st, d, e, rfl, hs, hd, he, hp⟩ := h
  obtain ⟨i, j, rfl, rfl, hp⟩ := apI_inv hd he (show po _ w (apI st d e fun i j => if 0 < j then ret st (.int (i % j)) else none) Q from hp)
  obtain ⟨hm, hp⟩ := po_if hp
  exact op_mod pins s σ w.H _ _ v u Q I rx ry ⟨i, j, rfl, rfl, hm, po_ret hs rv_int hp⟩
theorem o2_pow : OpR X (binaryOp .Pow) (r2 (cx X cl xn) .pow) := by
  intro pins s σ H x y v u Q I rx ry h
  obtain ⟨w, st, d, e, rfl, hs, hd, he, hp⟩ := h
  obtain ⟨i, j, rfl, rfl, hp⟩ := apI_inv hd he (show po _ w (apI st d e fun i j => if 0 ≤ j ∧ j ≤ 1000000 ∧ i.natAbs < 2 ^ 64 then ret st (.int (i ^ j.toNat)) else none) Q from hp)
  obtain ⟨hm, hp⟩ := po_if hp
  exact op_pow pins s σ w.H _ _ v u Q I rx ry ⟨i, j, rfl, rfl, hm, po_ret hs rv_int hp⟩
theorem o2_add {m : Bool} : OpR X (binaryOp .Add) (r2 (cx X cl xn) (.add m)) := by
  intro pins s σ H x y v u Q I rx ry h
  obtain ⟨w, st, d, e, rfl, hs, hd, he, hp⟩ := h
  have hp : po _ w (apAdd m st d e) Q := hp
  unfold apAdd at hp
  split at hp
  · simp only [rv] at hd he
    exact op_add pins s σ w.H _ _ v u Q I rx ry ⟨_, _, hd, he, po_ret hs rv_int hp⟩
  · simp only [rv] at hd he
    obtain ⟨hz, hp⟩ := po_if hp
    exact op_add_str pins s σ w.H _ _ v u Q I rx ry ⟨_, _, hd, he, hz, po_ret hs rv_str hp⟩
  · split at hp
    · obtain ⟨a, vs, rfl, ha, ra⟩ := tup_view hs hd (by assumption)
      obtain ⟨b, us, rfl, hb, rb⟩ := tup_view hs he (by assumption)
      obtain ⟨hz, hp⟩ := po_if hp
      rw [ra.length, rb.length] at hz
      refine op_catA pins s σ w.H _ _ v u Q I rx ry ⟨a, b, vs, us, rfl, rfl, ha.sq, hb.sq, hz, fun e0 => ?_, fun _ e0 => ?_, fun _ _ p hn => po_newT hs (ra.append rb) hn hp⟩
      · subst e0
        have hl := ra.length
        have : _ = ([] : List D) := List.length_eq_zero_iff.mp hl
        subst this
        exact hp w _ (.refl w) hs (by simp only [rv]; exact ⟨b, us, rfl, hb, rb⟩)
      · subst e0
        have hl := rb.length
        have : _ = ([] : List D) := List.length_eq_zero_iff.mp hl
        subst this
        exact hp w _ (.refl w) hs (by simp only [rv, List.append_nil]; exact ⟨a, vs, rfl, ha, ra⟩)
    · obtain ⟨a, vs, rfl, ha, ra⟩ := lst_view hs hd (by assumption)
      obtain ⟨b, us, rfl, hb, rb⟩ := lst_view hs he (by assumption)
      obtain ⟨hz, hp⟩ := po_if hp
      rw [ra.length, rb.length] at hz
      exact op_cat pins s σ w.H _ _ v u Q I rx ry ⟨a, b, vs, us, rfl, rfl, ha, hb, hz, fun p hn => po_newL hs (ra.append rb) hn hp⟩
    · exact hp.elim
theorem o2_eq (hu : X.A.units + 64 < cLine) : OpR X (compareOp .Eq) (r2 (cx X cl xn) .eq) := by
  intro pins s σ H x y v u Q I rx ry h
  obtain ⟨w, st, d, e, rfl, hs, hd, he, hp⟩ := h
  obtain ⟨p, h1, hp⟩ := po_bind (show po _ w ((pdL st d).bind fun p => (pdL st e).bind fun q => ret st (.bl (PyData.eqv p q))) Q from hp)
  obtain ⟨q, h2, hp⟩ := po_bind hp
  obtain ⟨a1, a2⟩ := pdL_dp hs h1 hd
  obtain ⟨b1, b2⟩ := pdL_dp hs h2 he
  exact op_eqD hu pins s σ w.H _ _ v u Q I rx ry ⟨p, q, a1, b1, a2, b2, po_ret hs rv_bl hp⟩
theorem o2_ne (hu : X.A.units + 64 < cLine) : OpR X (compareOp .NotEq) (r2 (cx X cl xn) .ne) := by
  intro pins s σ H x y v u Q I rx ry h
  obtain ⟨w, st, d, e, rfl, hs, hd, he, hp⟩ := h
  obtain ⟨p, h1, hp⟩ := po_bind (show po _ w ((pdL st d).bind fun p => (pdL st e).bind fun q => ret st (.bl (!PyData.eqv p q))) Q from hp)
  obtain ⟨q, h2, hp⟩ := po_bind hp
  obtain ⟨a1, a2⟩ := pdL_dp hs h1 hd
  obtain ⟨b1, b2⟩ := pdL_dp hs h2 he
  exact op_neD hu pins s σ w.H _ _ v u Q I rx ry ⟨p, q, a1, b1, a2, b2, po_ret hs rv_bl hp⟩
theorem o2_isn : OpR X (compareOp .Is) (r2 (cx X cl xn) .isn) := by
  intro pins s σ H x y v u Q I rx ry h
  obtain ⟨w, st, d, e, rfl, hs, hd, he, hp⟩ := h
  have hp : po _ w (apIsn st d e false) Q := hp
  unfold apIsn at hp
  split at hp
  · simp only [rv] at he
    refine op_isN pins s σ w.H _ _ v u Q I rx ry ⟨he, ?_⟩
    rw [rv_non hd]
    exact po_ret hs rv_bl hp
  · exact hp.elim
theorem o2_notn : OpR X (compareOp .IsNot) (r2 (cx X cl xn) .notn) := by
  intro pins s σ H x y v u Q I rx ry h
  obtain ⟨w, st, d, e, rfl, hs, hd, he, hp⟩ := h
  have hp : po _ w (apIsn st d e true) Q := hp
  unfold apIsn at hp
  split at hp
  · simp only [rv] at he
    refine op_notN pins s σ w.H _ _ v u Q I rx ry ⟨he, ?_⟩
    rw [rv_non hd]
    exact po_ret hs rv_bl hp
  · exact hp.elim
theorem o2_isb : OpR X (compareOp .Is) (r2 (cx X cl xn) .isb) := by
  intro pins s σ H x y v u Q I rx ry h
  obtain ⟨w, st, d, e, rfl, hs, hd, he, hp⟩ := h
  have hp : po _ w (apIsb st d e false) Q := hp
  unfold apIsb at hp
  split at hp
  · simp only [rv] at hd he
    exact op_isBl pins s σ w.H _ _ v u Q I rx ry ⟨_, _, hd, he, po_ret hs rv_bl hp⟩
  · exact hp.elim
theorem o2_notb : OpR X (compareOp .IsNot) (r2 (cx X cl xn) .notb) := by
  intro pins s σ H x y v u Q I rx ry h
  obtain ⟨w, st, d, e, rfl, hs, hd, he, hp⟩ := h
  have hp : po _ w (apIsb st d e true) Q := hp
  unfold apIsb at hp
  split at hp
  · simp only [rv] at hd he
    exact op_notBl pins s σ w.H _ _ v u Q I rx ry ⟨_, _, hd, he, po_ret hs rv_bl hp⟩
  · exact hp.elim
theorem atI_rvs {c : Rc} {w : Wd} {ds : List D} {vs : List V} (r : rvs c w ds vs) {i : Int} {d : D} (h : atI ds i = some d) : ∃ v, atI vs i = some v ∧ rv c w d v := by
  unfold atI at h ⊢
  rw [← r.length]
  rw [Option.bind_eq_some_iff] at h
  obtain ⟨j, h1, h2⟩ := h
  obtain ⟨v, h3, h4⟩ := r.get j d h2
  exact ⟨v, by rw [h1]; exact h3, h4⟩
theorem ix_ok : IxR X (r2 (cx X cl xn) .ix) := by
  intro value slice pins s σ H x y v u Q I rx ry h hsl
  obtain ⟨w, st, d, e, rfl, hs, hd, he, hp⟩ := h
  have hp : po _ w (apIx st d e) Q := hp
  unfold apIx at hp
  split at hp
  · simp only [rv] at hd he
    obtain ⟨hz, hp⟩ := po_if hp
    obtain ⟨ch, h1, hp⟩ := po_bind hp
    exact ix_str value slice pins s σ w.H _ _ v u Q I rx ry ⟨_, _, ch, hd, he, hz, h1, po_ret hs rv_str hp⟩ hsl
  · simp only [rv] at he
    obtain ⟨ds, h1, hp⟩ := po_bind hp
    obtain ⟨z, h2, hp⟩ := po_bind hp
    obtain ⟨a, vs, rfl, ha, ra⟩ := seq_view hs hd h1
    obtain ⟨zv, h3, h4⟩ := atI_rvs ra h2
    rcases ha with ha | ha
    · exact ix_list value slice pins s σ w.H _ _ v u Q I rx ry ⟨a, vs, _, zv, rfl, he, ha, h3, po_ret hs h4 hp⟩ hsl
    · exact ix_tup value slice pins s σ w.H _ _ v u Q I rx ry ⟨a, vs, _, zv, rfl, he, ha, h3, po_ret hs h4 hp⟩ hsl
  · exact hp.elim
/-! ### in -/
theorem dp_flat {K : PySem.W.Frag} {H : Hp} {v : V} {p : PyData} (h : Dp K H v p) (f : flatP p = true) : flatV v = true ∧ ∀ {u : V} {q : PyData}, Dp K H u q → flatP q = true → eqV v u = PyData.eqv p q := by
  cases h with
  | non => exact ⟨rfl, fun h f => by cases h <;> first | rfl | cases f⟩
  | bl b => exact ⟨rfl, fun h f => by cases h <;> first | rfl | cases f⟩
  | int i => exact ⟨rfl, fun h f => by cases h <;> first | rfl | cases f⟩
  | str x => exact ⟨rfl, fun h f => by cases h <;> first | rfl | cases f⟩
  | lst _ _ => cases f
  | tup _ _ => cases f
theorem dps_flat {K : PySem.W.Frag} {H : Hp} {u : V} {q : PyData} (hu : Dp K H u q) (fu : flatP q = true) : ∀ {vs : List V} {ps : List PyData}, DpAll K H vs ps → ps.all flatP = true → vs.all flatV = true ∧ (vs.any fun y => eqV y u) = ps.any fun z => PyData.eqv z q
  | [], _, .nil, _ => ⟨rfl, rfl⟩
  | v :: vs, _, .cons h hs, f => by
    simp only [List.all_cons, Bool.and_eq_true] at f
    obtain ⟨a, b⟩ := dp_flat h f.1
    obtain ⟨a2, b2⟩ := dps_flat hu fu hs f.2
    exact ⟨by simp only [List.all_cons, a, a2, Bool.and_self], by simp only [List.any_cons, b hu fu, b2]⟩
theorem in_core {w : Wd} {st : Sto} {d e : D} {b : Bool} {x y : V} (hs : Rs (cx X cl xn) w st) (hd : rv (cx X cl xn) w d x) (he : rv (cx X cl xn) w e y) (h : apIn st d e = some b) :
    (∃ i j, x = .str i ∧ y = .str j ∧ b = (!(Builtin.Str.occurrences j i 0 j.length 1).isEmpty)) ∨
    (∃ p qs, Dp X.K w.H x p ∧ Dp X.K w.H y (.list qs) ∧ SeqAt.shaped p = true ∧ SeqAt.shaped (.list qs) = true ∧ b = qs.any fun z => PyData.eqv z p) ∨
    (∃ p xs, y = .ref p ∧ SqT X.K w.H p xs ∧ flatV x = true ∧ xs.all flatV = true ∧ b = inV x xs) := by
  unfold apIn at h
  split at h
  · simp only [rv] at hd he
    exact .inl ⟨_, _, hd, he, (Option.some.inj h).symm⟩
  · split at h
    · obtain ⟨a1, a2⟩ := pdL_dp hs (by assumption) hd
      obtain ⟨b1, b2⟩ := pdL_dp hs (by assumption) he
      exact .inr (.inl ⟨_, _, a1, b1, a2, b2, (Option.some.inj h).symm⟩)
    · obtain ⟨a1, a2⟩ := pdL_dp hs (by assumption) hd
      obtain ⟨b1, b2⟩ := pdL_dp hs (by assumption) he
      split at h
      · rename_i hf
        simp only [Bool.and_eq_true] at hf
        cases b1 with
        | tup ht ha =>
          obtain ⟨c1, c2⟩ := dps_flat a1 hf.1 ha hf.2
          exact .inr (.inr ⟨_, _, rfl, ht, (dp_flat a1 hf.1).1, c1, by rw [← Option.some.inj h]; exact c2.symm⟩)
      · cases h
    · cases h
theorem o2_in (hu : X.A.units + 65 < cLine) : OpR X (compareOp .In) (r2 (cx X cl xn) .in_) := by
  intro pins s σ H x y v u Q I rx ry h
  obtain ⟨w, st, d, e, rfl, hs, hd, he, hp⟩ := h
  obtain ⟨b, h1, hp⟩ := po_bind (show po _ w ((apIn st d e).bind fun b => ret st (.bl b)) Q from hp)
  have q := po_ret hs rv_bl hp
  rcases in_core hs hd he h1 with ⟨i, j, hx, hy, rfl⟩ | ⟨p, qs, a1, a2, a3, a4, rfl⟩ | ⟨p, xs, a1, a2, a3, a4, rfl⟩
  · exact op_in_str pins s σ w.H _ _ v u Q I rx ry ⟨i, j, hx, hy, q⟩
  · exact op_inD hu pins s σ w.H _ _ v u Q I rx ry ⟨p, qs, a1, a2, a3, a4, q⟩
  · exact op_in_seq pins s σ w.H _ _ v u Q I rx ry ⟨p, xs, a1, .inr a2, a3, a4, q⟩
theorem o2_notin (hu : X.A.units + 65 < cLine) : OpR X (compareOp .NotIn) (r2 (cx X cl xn) .notin) := by
  intro pins s σ H x y v u Q I rx ry h
  obtain ⟨w, st, d, e, rfl, hs, hd, he, hp⟩ := h
  obtain ⟨b, h1, hp⟩ := po_bind (show po _ w ((apIn st d e).bind fun b => ret st (.bl (!b))) Q from hp)
  have q := po_ret hs rv_bl hp
  rcases in_core hs hd he h1 with ⟨i, j, hx, hy, rfl⟩ | ⟨p, qs, a1, a2, a3, a4, rfl⟩ | ⟨p, xs, a1, a2, a3, a4, rfl⟩
  · exact op_notin_str pins s σ w.H _ _ v u Q I rx ry ⟨i, j, hx, hy, q⟩
  · exact op_notInD hu pins s σ w.H _ _ v u Q I rx ry ⟨p, qs, a1, a2, a3, a4, q⟩
  · exact op_notIn_seq pins s σ w.H _ _ v u Q I rx ry ⟨p, xs, a1, .inr a2, a3, a4, q⟩
end
end Ir
end
section
set_option Elab.async false
set_option linter.all false
set_option maxRecDepth 100000
namespace Ir
open PySem PySem.Spec PyProof.Rows L2

/-! ### equality of data, to be reckoned -/
mutual
def deq : D → D → Bool
  | .non, .non => true
  | .bl a, .bl b => a == b
  | .int a, .int b => decide (a = b)
  | .str a, .str b => decide (a = b)
  | .tup a, .tup b => deqs a b
  | .lst a, .lst b => deqs a b
  | .klst a, .klst b => deqs a b
  | .dic a b, .dic a' b' => deqs a a' && deqs b b'
  | .set a, .set b => deqs a b
  | .ins k a b, .ins k' a' b' => decide (k = k') && decide (a = a') && deqs b b'
  | .ref a, .ref b => decide (a = b)
  | .cls a, .cls b => decide (a = b)
  | .ty a, .ty b => decide (a = b)
  | _, _ => false
def deqs : List D → List D → Bool
  | [], [] => true
  | a :: as, b :: bs => deq a b && deqs as bs
  | _, _ => false
end
mutual
theorem deq_eq : ∀ (a b : D), deq a b = true → a = b
  | .non, b, h => by cases b <;> simp_all [deq]
  | .bl a, b, h => by cases b <;> simp_all [deq]
  | .int a, b, h => by cases b <;> simp_all [deq]
  | .str a, b, h => by cases b <;> simp_all [deq]
  | .tup as, b, h => by
    cases b <;> simp only [deq, Bool.false_eq_true] at h
    rw [deqs_eq as _ h]
  | .lst as, b, h => by
    cases b <;> simp only [deq, Bool.false_eq_true] at h
    rw [deqs_eq as _ h]
  | .klst as, b, h => by
    cases b <;> simp only [deq, Bool.false_eq_true] at h
    rw [deqs_eq as _ h]
  | .dic as bs, b, h => by
    cases b <;> simp only [deq, Bool.false_eq_true, Bool.and_eq_true] at h
    rw [deqs_eq as _ h.1, deqs_eq bs _ h.2]
  | .set as, b, h => by
    cases b <;> simp only [deq, Bool.false_eq_true] at h
    rw [deqs_eq as _ h]
  | .ins k ks as, b, h => by
    cases b <;> simp only [deq, Bool.false_eq_true, Bool.and_eq_true, decide_eq_true_eq] at h
    rw [h.1.1, h.1.2, deqs_eq as _ h.2]
  | .ref a, b, h => by cases b <;> simp_all [deq]
  | .cls a, b, h => by cases b <;> simp_all [deq]
  | .ty a, b, h => by cases b <;> simp_all [deq]
theorem deqs_eq : ∀ (as bs : List D), deqs as bs = true → as = bs
  | [], bs, h => by cases bs <;> simp_all [deqs]
  | a :: as, bs, h => by
    cases bs <;> simp only [deqs, Bool.false_eq_true, Bool.and_eq_true] at h
    rw [deq_eq a _ h.1, deqs_eq as _ h.2]
end
mutual
theorem deq_refl : ∀ a : D, deq a a = true
  | .non => by simp [deq]
  | .bl _ => by simp [deq]
  | .int _ => by simp [deq]
  | .str _ => by simp [deq]
  | .tup as => by simp [deq, deqs_refl as]
  | .lst as => by simp [deq, deqs_refl as]
  | .klst as => by simp [deq, deqs_refl as]
  | .dic as bs => by simp [deq, deqs_refl as, deqs_refl bs]
  | .set as => by simp [deq, deqs_refl as]
  | .ins _ _ as => by simp [deq, deqs_refl as]
  | .ref _ => by simp [deq]
  | .cls _ => by simp [deq]
  | .ty _ => by simp [deq]
theorem deqs_refl : ∀ as : List D, deqs as as = true
  | [] => by simp [deqs]
  | a :: as => by simp [deqs, deq_refl a, deqs_refl as]
end

/-! ### classes -/
/-- what is told of the program's classes: an instance of k against the class k'; a value of a built-in type against k'; an instance of k against a built-in type -/
structure Tab where
  kitC : Nat → Nat → Option Bool
  kitT : String → Nat → Option Bool
  kitI : Nat → String → Option Bool
/-- the class's own facts -/
structure Kc (K : PySem.W.Frag) (C : Addr) : Prop where
  cls : Cls K C
  ha : PySem.W.findIn K (.ref C) "__class__" = some (some (.builtin "object.__class__"))
  hn : PySem.W.specialIn K (.builtin "object.__class__") "__get__" = some (some (.builtin "getset_descriptor.__get__"))
  htk : PySem.W.takesIn K (.builtin "object.__class__") = some true
  hm : PySem.W.mroIn K C (.type "object") = some true
structure Kf (c : Rc) (T : Tab) : Prop where
  cc : ∀ k k' b, T.kitC k k' = some b → Kc c.K (c.cl k) ∧ PySem.W.kitOne c.K (.ref (c.cl k)) (.ref (c.cl k')) = some b
  tc : ∀ n k' b, T.kitT n k' = some b → PySem.W.kitOne c.K (.type n) (.ref (c.cl k')) = some b
  ic : ∀ k n b, T.kitI k n = some b → Kc c.K (c.cl k) ∧ PySem.W.kitOne c.K (.ref (c.cl k)) (.type n) = some b

inductive On where
  | tup | lst (m : Bool) | neg | len | abs | int | bool | list (m : Bool) | tuple | any | all | max | min | max2 | min2 | isi
  | append | pop | popAt | extend | index
def boolsOf : List D → Option (List Bool)
  | [] => some []
  | .bl b :: ds => (boolsOf ds).map (b :: ·)
  | _ => none
def intsOf : List D → Option (List Int)
  | [] => some []
  | .int i :: ds => (intsOf ds).map (i :: ·)
  | _ => none
def flatDs : List D → Bool
  | [] => true
  | .non :: ds => flatDs ds
  | .bl _ :: ds => flatDs ds
  | .int _ :: ds => flatDs ds
  | .str _ :: ds => flatDs ds
  | _ => false
def maxL : List Int → Int
  | [] => 0
  | [a] => a
  | a :: b :: r => let m := maxL (b :: r); if a < m then m else a
def minL : List Int → Int
  | [] => 0
  | [a] => a
  | a :: b :: r => let m := minL (b :: r); if m < a then m else a
theorem maxL_spec : ∀ l : List Int, 0 < l.length → maxL l ∈ l ∧ ∀ y, y ∈ l → y ≤ maxL l
  | [], h => by simp at h
  | [a], _ => by simp [maxL]
  | a :: b :: r, _ => by
    obtain ⟨h1, h2⟩ := maxL_spec (b :: r) (by simp)
    simp only [maxL]
    split
    · refine ⟨List.mem_cons_of_mem _ h1, fun y hy => ?_⟩
      rcases List.mem_cons.mp hy with rfl | hy
      · omega
      · exact h2 y hy
    · refine ⟨List.mem_cons_self, fun y hy => ?_⟩
      rcases List.mem_cons.mp hy with rfl | hy
      · omega
      · have := h2 y hy; omega
theorem minL_spec : ∀ l : List Int, 0 < l.length → minL l ∈ l ∧ ∀ y, y ∈ l → minL l ≤ y
  | [], h => by simp at h
  | [a], _ => by simp [minL]
  | a :: b :: r, _ => by
    obtain ⟨h1, h2⟩ := minL_spec (b :: r) (by simp)
    simp only [minL]
    split
    · refine ⟨List.mem_cons_of_mem _ h1, fun y hy => ?_⟩
      rcases List.mem_cons.mp hy with rfl | hy
      · omega
      · exact h2 y hy
    · refine ⟨List.mem_cons_self, fun y hy => ?_⟩
      rcases List.mem_cons.mp hy with rfl | hy
      · omega
      · have := h2 y hy; omega
/-- the type of a datum: a class of the program's, a built-in one -/
inductive Tv where
  | c (k : Nat) | t (n : String)
def tvD (s : Sto) (d : D) : Option Tv := match look s d with
  | .ins k _ _ => some (.c k)
  | .non => some (.t "NoneType")
  | .bl _ => some (.t "bool")
  | .int _ => some (.t "int")
  | .str _ => some (.t "str")
  | .tup _ => some (.t "tuple")
  | .lst _ => some (.t "list")
  | .dic _ _ => some (.t "dict")
  | _ => none
def kitD (T : Tab) (t : Tv) (e : D) : Option Bool := match t, e with
  | .c k, .cls k' => T.kitC k k'
  | .c k, .ty n => T.kitI k n
  | .t n, .cls k' => T.kitT n k'
  | .t n, .ty n' => kitB n n'
  | _, _ => none
def kitAnyD (T : Tab) (t : Tv) : List D → Option Bool
  | [] => some false
  | e :: es => match kitD T t e with
    | some true => some true
    | some false => kitAnyD T t es
    | none => none
def firstAt (p : D → Bool) : List D → Nat → Option Nat
  | [], _ => none
  | d :: ds, i => if p d then some i else firstAt p ds (i + 1)
def apLen (s : Sto) (d : D) : Po := match d with
  | .str x => if x.length ≤ sizeLine then ret s (.int x.length) else none
  | d => (seqOf s d).bind fun ds => ret s (.int ds.length)
def apInt (s : Sto) (d : D) : Po := match d with
  | .int i => ret s (.int i)
  | .bl b => ret s (.int (if b then 1 else 0))
  | _ => none
def apBool (s : Sto) (d : D) : Po := match d with
  | .int i => ret s (.bl (i != 0))
  | .bl b => ret s (.bl b)
  | d => match look s d with
    | .lst ds => ret s (.bl (!ds.isEmpty))
    | .tup ds => ret s (.bl (!ds.isEmpty))
    | _ => none
def apTuple (s : Sto) (d : D) : Po := match look s d with
  | .tup ds => ret s (.tup ds)
  | .lst ds => newT s ds
  | .klst ds => newT s ds
  | _ => none
def apBools (s : Sto) (d : D) (f : List Bool → Bool) : Po := match look s d with
  | .lst ds => (boolsOf ds).bind fun bs => ret s (.bl (f bs))
  | _ => none
def apInts (s : Sto) (d : D) (f : List Int → Int) : Po := match look s d with
  | .lst ds => (intsOf ds).bind fun ns => if 0 < ns.length then ret s (.int (f ns)) else none
  | _ => none
/-- a list of the store, by its number -/
def mutL (s : Sto) (d : D) (f : Nat → List D → Po) : Po := match d with
  | .ref n => match s[n]? with
    | some (.lst ds) => f n ds
    | _ => none
  | _ => none
def apPopAt (s : Sto) (d : D) (i : Int) : Po := mutL s d fun n ds =>
  if -(2 ^ 63) ≤ i ∧ i < 2 ^ 63 then (seqIndex? i ds.length).bind fun k => ds[k]?.bind fun x => some (x, s.set n (.lst (ds.eraseIdx k))) else none
def apIndex (s : Sto) (d e : D) : Po := match look s d with
  | .lst ds => if flatDs ds && flatDs [e] then (pd e).bind fun p => (firstAt (fun z => match pd z with
      | some q => PyData.eqv q p
      | none => false) ds 0).bind fun j => ret s (.int j) else none
  | _ => none
def one (f : D → Po) : List D → Po
  | [d] => f d
  | _ => none
def two (f : D → D → Po) : List D → Po
  | [d, e] => f d e
  | _ => none
def apI1 (d : D) (f : Int → Po) : Po := match d with
  | .int i => f i
  | _ => none
/-- every item is a class -/
def clsD : D → Bool
  | .cls _ => true
  | .ty _ => true
  | _ => false
def apIsi (T : Tab) (s : Sto) (d e : D) : Po := (tvD s d).bind fun t => match e with
  | .tup (e :: es) => if (e :: es).all clsD = true then (kitAnyD T t (e :: es)).bind fun b => ret s (.bl b) else none
  | e => (kitD T t e).bind fun b => ret s (.bl b)
def apExtend (s : Sto) (d e : D) : Po := mutL s d fun n ds => match look s e with
  | .lst es => if ds.length + es.length ≤ sizeLine then some (.non, s.set n (.lst (ds ++ es))) else none
  | _ => none
def apn (T : Tab) (o : On) (s : Sto) (as : List D) : Po := match o with
  | .tup => if as.length ≤ sizeLine then newT s as else none
  | .lst m => if as.length ≤ sizeLine then newL m s as else none
  | .neg => one (fun d => apI1 d fun i => ret s (.int (-i))) as
  | .len => one (apLen s) as
  | .abs => one (fun d => apI1 d fun i => ret s (.int (if i < 0 then -i else i))) as
  | .int => one (apInt s) as
  | .bool => one (apBool s) as
  | .list m => one (fun d => (seqOf s d).bind fun ds => newL m s ds) as
  | .tuple => one (apTuple s) as
  | .any => one (fun d => apBools s d fun bs => bs.any id) as
  | .all => one (fun d => apBools s d fun bs => bs.all id) as
  | .max => one (fun d => apInts s d maxL) as
  | .min => one (fun d => apInts s d minL) as
  | .max2 => two (fun d e => apI s d e fun i j => ret s (.int (if j > i then j else i))) as
  | .min2 => two (fun d e => apI s d e fun i j => ret s (.int (if j < i then j else i))) as
  | .isi => two (apIsi T s) as
  | .append => two (fun d x => mutL s d fun n ds => if ds.length < sizeLine then some (.non, s.set n (.lst (ds ++ [x]))) else none) as
  | .pop => one (fun d => mutL s d fun n ds => ds[ds.length - 1]?.bind fun x => some (x, s.set n (.lst ds.dropLast))) as
  | .popAt => two (fun d e => apI1 e fun i => apPopAt s d i) as
  | .extend => two (apExtend s) as
  | .index => two (apIndex s) as
/-- an operation of several places by its meaning -/
def rn (c : Rc) (T : Tab) (o : On) : List V → Hp → VK → Prop := fun vs H Q => ∃ (w : Wd) (s : Sto) (ds : List D), w.H = H ∧ Rs c w s ∧ rvs c w ds vs ∧ po c w (apn T o s ds) Q
section
variable {X : Cx} {cl : Nat → Addr} {xn : Xn} {T : Tab} {c : Rc} {w : Wd} {s : Sto}
theorem rvs1 {d : D} {vs : List V} (h : rvs c w [d] vs) : ∃ v, vs = [v] ∧ rv c w d v := by
  simp only [rvs] at h
  obtain ⟨v, r, rfl, h, rfl⟩ := h
  exact ⟨v, rfl, h⟩
theorem rvs2 {d e : D} {vs : List V} (h : rvs c w [d, e] vs) : ∃ v u, vs = [v, u] ∧ rv c w d v ∧ rv c w e u := by
  simp only [rvs] at h
  obtain ⟨v, r, rfl, h, u, r2, rfl, h2, rfl⟩ := h
  exact ⟨v, u, rfl, h, h2⟩
theorem bools_view : ∀ {ds : List D} {bs : List Bool} {vs : List V}, boolsOf ds = some bs → rvs c w ds vs → vs = bs.map V.bl
  | [], bs, vs, h, r => by simp only [boolsOf, Option.some.injEq] at h; simp only [rvs] at r; subst h r; rfl
  | d :: ds, bs, vs, h, r => by
    cases d <;> simp only [boolsOf, reduceCtorEq] at h
    rw [Option.map_eq_some_iff] at h
    obtain ⟨bs', h, rfl⟩ := h
    simp only [rvs] at r
    obtain ⟨v, r', rfl, h1, h2⟩ := r
    simp only [rv] at h1
    subst h1
    rw [bools_view h h2]
    rfl
theorem ints_view : ∀ {ds : List D} {ns : List Int} {vs : List V}, intsOf ds = some ns → rvs c w ds vs → vs = ns.map V.int
  | [], ns, vs, h, r => by simp only [intsOf, Option.some.injEq] at h; simp only [rvs] at r; subst h r; rfl
  | d :: ds, ns, vs, h, r => by
    cases d <;> simp only [intsOf, reduceCtorEq] at h
    rw [Option.map_eq_some_iff] at h
    obtain ⟨ns', h, rfl⟩ := h
    simp only [rvs] at r
    obtain ⟨v, r', rfl, h1, h2⟩ := r
    simp only [rv] at h1
    subst h1
    rw [ints_view h h2]
    rfl
theorem mut_view {d : D} {v : V} {f : Nat → List D → Po} {Q : VK} (hs : Rs c w s) (hd : rv c w d v) (h : po c w (mutL s d f) Q) : ∃ n ds vs, n < w.N ∧ v = .ref (w.η n) ∧ w.H (w.η n) = some (.lst vs) ∧ rvs c w ds vs ∧ po c w (f n ds) Q := by
  unfold mutL at h
  split at h
  · rename_i n
    simp only [rv] at hd
    split at h
    · rename_i ds hq
      obtain ⟨vs, h1, h2⟩ := hs.obj n _ hq
      exact ⟨n, ds, vs, hd.1, hd.2, h1, h2, h⟩
    · exact h.elim
  · exact h.elim
theorem one_inv {f : D → Po} {ds : List D} {vs : List V} {Q : VK} (hd : rvs c w ds vs) (h : po c w (one f ds) Q) : ∃ d v, vs = [v] ∧ rv c w d v ∧ po c w (f d) Q := by
  unfold one at h
  split at h
  · obtain ⟨v, rfl, h1⟩ := rvs1 hd
    exact ⟨_, v, rfl, h1, h⟩
  · exact h.elim
theorem two_inv {f : D → D → Po} {ds : List D} {vs : List V} {Q : VK} (hd : rvs c w ds vs) (h : po c w (two f ds) Q) : ∃ d e v u, vs = [v, u] ∧ rv c w d v ∧ rv c w e u ∧ po c w (f d e) Q := by
  unfold two at h
  split at h
  · obtain ⟨v, u, rfl, h1, h2⟩ := rvs2 hd
    exact ⟨_, _, v, u, rfl, h1, h2, h⟩
  · exact h.elim
theorem i1_inv {d : D} {v : V} {f : Int → Po} {Q : VK} (hd : rv c w d v) (h : po c w (apI1 d f) Q) : ∃ i, v = .int i ∧ po c w (f i) Q := by
  unfold apI1 at h
  split at h
  · simp only [rv] at hd
    exact ⟨_, hd, h⟩
  · exact h.elim
abbrev R1 := V → Hp → VK → Prop
/-- a one-place call by its meaning -/
theorem call_one {f : Value} {o : On} {g : Sto → D → Po} (ho : ∀ s as, apn T o s as = one (g s) as)
    (k : ∀ (pins : List (Addr × Obj)) (s : Shared) (σ : L2.St) (w : Wd) (st : Sto) (d : D) (x : V) (us : List Value) (Q : VK), L2.Inv X pins σ w.H s → Vals [x] us → Rs (cx X cl xn) w st → rv (cx X cl xn) w d x → po (cx X cl xn) w (g st d) Q → wpAny (model X.prog X.w) X.A (call f us) (EP X pins σ Q) X.xe s) :
    CallR X f (rn (cx X cl xn) T o) := by
  intro pins s σ H vs us Q I r h
  obtain ⟨w, st, ds, rfl, hs, hd, hp⟩ := h
  rw [ho] at hp
  obtain ⟨d, v, rfl, h1, hp⟩ := one_inv hd hp
  exact k pins s σ w st d v us Q I r hs h1 hp
theorem call_two {f : Value} {o : On} {g : Sto → D → D → Po} (ho : ∀ s as, apn T o s as = two (g s) as)
    (k : ∀ (pins : List (Addr × Obj)) (s : Shared) (σ : L2.St) (w : Wd) (st : Sto) (d e : D) (x y : V) (us : List Value) (Q : VK), L2.Inv X pins σ w.H s → Vals [x, y] us → Rs (cx X cl xn) w st → rv (cx X cl xn) w d x → rv (cx X cl xn) w e y → po (cx X cl xn) w (g st d e) Q →
      wpAny (model X.prog X.w) X.A (call f us) (EP X pins σ Q) X.xe s) :
    CallR X f (rn (cx X cl xn) T o) := by
  intro pins s σ H vs us Q I r h
  obtain ⟨w, st, ds, rfl, hs, hd, hp⟩ := h
  rw [ho] at hp
  obtain ⟨d, e, v, u, rfl, h1, h2, hp⟩ := two_inv hd hp
  exact k pins s σ w st d e v u us Q I r hs h1 h2 hp
theorem rvs.isEmpty {ds : List D} {vs : List V} (h : rvs c w ds vs) : vs.isEmpty = ds.isEmpty := by
  have := h.length
  cases vs <;> cases ds <;> first | rfl | simp at this
theorem n_len : CallR X (.builtin "len") (rn (cx X cl xn) T .len) := call_one (fun _ _ => rfl) fun pins s σ w st d x us Q I r hs hd hp => by
  unfold apLen at hp
  split at hp
  · obtain ⟨hz, hp⟩ := po_if hp
    simp only [rv] at hd
    subst hd
    exact call_len pins s σ w.H _ us Q I r ⟨_, _, rfl, ⟨hz, rfl⟩, po_ret hs rv_int hp⟩
  · obtain ⟨ds, h1, hp⟩ := po_bind hp
    obtain ⟨a, vs, rfl, ha, ra⟩ := seq_view hs hd h1
    refine call_len pins s σ w.H _ us Q I r ⟨_, vs.length, rfl, ?_, by rw [← ra.length]; exact po_ret hs rv_int hp⟩
    rcases ha with ha | ha
    · exact .inl ⟨vs, ha, rfl⟩
    · exact .inr ⟨vs, ha, rfl⟩
theorem n_abs : CallR X (.builtin "abs") (rn (cx X cl xn) T .abs) := call_one (fun _ _ => rfl) fun pins s σ w st d x us Q I r hs hd hp => by
  obtain ⟨i, rfl, hp⟩ := i1_inv hd hp
  exact call_abs pins s σ w.H _ us Q I r ⟨i, rfl, po_ret hs rv_int hp⟩
theorem n_int : CallR X (.type "int") (rn (cx X cl xn) T .int) := call_one (fun _ _ => rfl) fun pins s σ w st d x us Q I r hs hd hp => by
  unfold apInt at hp
  split at hp
  · simp only [rv] at hd; subst hd
    exact call_int1 pins s σ w.H _ us Q I r (.inl ⟨_, rfl, po_ret hs rv_int hp⟩)
  · simp only [rv] at hd; subst hd
    exact call_int1 pins s σ w.H _ us Q I r (.inr ⟨_, rfl, po_ret hs rv_int hp⟩)
  · exact hp.elim
theorem meets_bool_tup (l : Addr) (items : Array Value) (hz : (items.size : Int) < 2 ^ 63) : Meets (Builtin.«bool.__new__» ⟨[.type "bool", .ref l], []⟩) (fun _ R s => PyProof.Rows.IsTup s.heap l items ∧ R (.ok (.ret (.bool (!items.isEmpty)))) { s with toks := s.toks + 1 + 1 }) :=
  Meets.of_wp fun prog w A R s hs => by
    obtain ⟨hl, hs⟩ := hs
    obtain ⟨hp, g, dr, tk, os⟩ := s
    have f1 := PySem.F.conv_sub_bool
    repeat (any_goals (first | assumption | (with_reducible refine PyProof.Rows.truthy_tuple hl hz ?_) | wp_step))
    all_goals first | exact ⟨_, rfl, hs⟩ | exact hs | skip
theorem call_boolT : CallR X (.type "bool") (fun xs H Q => ∃ (a : Addr) (zs : List V), xs = [.ref a] ∧ SqT X.K H a zs ∧ Q (.bl (!zs.isEmpty)) H) := by
  intro pins s σ H xs us Q I r h
  obtain ⟨a, zs, rfl, hq, q⟩ := h
  obtain rfl := Vals.ref1 r
  obtain ⟨its, rv, pl, hz⟩ := I.tuple hq
  have hlen := rv.length
  have hl63 : sizeLine < 2 ^ 63 := by unfold sizeLine; decide
  refine call_bool_1 (meets_bool_tup a its.toArray (by simp only [List.size_toArray]; omega)) ⟨pl, rfl, ?_⟩
  exact ⟨.bl (!zs.isEmpty), H, I.tok _, by rw [isEmpty_of rv]; rfl, q⟩
theorem n_bool : CallR X (.type "bool") (rn (cx X cl xn) T .bool) := call_one (fun _ _ => rfl) fun pins s σ w st d x us Q I r hs hd hp => by
  unfold apBool at hp
  split at hp
  · simp only [rv] at hd; subst hd
    exact call_bool1 pins s σ w.H _ us Q I r (.inl ⟨_, rfl, po_ret hs rv_bl hp⟩)
  · simp only [rv] at hd; subst hd
    exact call_bool1 pins s σ w.H _ us Q I r (.inr ⟨_, rfl, po_ret hs rv_bl hp⟩)
  · split at hp
    · obtain ⟨a, vs, rfl, ha, ra⟩ := look_lst hs hd (by assumption)
      refine call_boolL pins s σ w.H _ us Q I r ⟨a, vs, rfl, ha, ?_⟩
      rw [ra.isEmpty]
      exact po_ret hs rv_bl hp
    · obtain ⟨a, vs, rfl, ha, ra⟩ := tup_view hs hd (by assumption)
      refine call_boolT pins s σ w.H _ us Q I r ⟨a, vs, rfl, ha.sq, ?_⟩
      rw [ra.isEmpty]
      exact po_ret hs rv_bl hp
    · exact hp.elim
theorem n_list {m : Bool} : CallR X (.type "list") (rn (cx X cl xn) T (.list m)) := call_one (fun _ _ => rfl) fun pins s σ w st d x us Q I r hs hd hp => by
  obtain ⟨ds, h1, hp⟩ := po_bind hp
  obtain ⟨a, vs, rfl, ha, ra⟩ := seq_view hs hd h1
  exact call_list_of pins s σ w.H _ us Q I r ⟨a, vs, rfl, ha, fun l hl => po_newL hs ra hl hp⟩
theorem n_tuple : CallR X (.type "tuple") (rn (cx X cl xn) T .tuple) := call_one (fun _ _ => rfl) fun pins s σ w st d x us Q I r hs hd hp => by
  unfold apTuple at hp
  split at hp
  · obtain ⟨a, vs, rfl, ha, ra⟩ := tup_view hs hd (by assumption)
    exact call_tuple_of pins s σ w.H _ us Q I r ⟨a, vs, rfl, .inr ⟨ha.sq, po_ret hs (by simp only [rv]; exact ⟨a, vs, rfl, ha, ra⟩) hp⟩⟩
  · obtain ⟨a, vs, rfl, ha, ra⟩ := look_lst hs hd (by assumption)
    exact call_tuple_of pins s σ w.H _ us Q I r ⟨a, vs, rfl, .inl ⟨ha, fun l hl => po_newT hs ra hl hp⟩⟩
  · obtain ⟨a, vs, rfl, ha, ra⟩ := klst_view hs hd (by assumption)
    exact call_tuple_of pins s σ w.H _ us Q I r ⟨a, vs, rfl, .inl ⟨ha, fun l hl => po_newT hs ra hl hp⟩⟩
  · exact hp.elim
theorem bools_inv {d : D} {v : V} {f : List Bool → Bool} {Q : VK} (hs : Rs c w s) (hd : rv c w d v) (h : po c w (apBools s d f) Q) : ∃ a bs, v = .ref a ∧ SqL c.K w.H a (bs.map V.bl) ∧ Q (.bl (f bs)) w.H := by
  unfold apBools at h
  split at h
  · obtain ⟨bs, h1, hp⟩ := po_bind h
    obtain ⟨a, vs, rfl, ha, ra⟩ := look_lst hs hd (by assumption)
    rw [bools_view h1 ra] at ha
    exact ⟨a, bs, rfl, ha, po_ret hs rv_bl hp⟩
  · exact h.elim
theorem ints_inv {d : D} {v : V} {f : List Int → Int} {Q : VK} (hs : Rs c w s) (hd : rv c w d v) (h : po c w (apInts s d f) Q) : ∃ a ns, v = .ref a ∧ SqL c.K w.H a (ns.map V.int) ∧ 0 < ns.length ∧ Q (.int (f ns)) w.H := by
  unfold apInts at h
  split at h
  · obtain ⟨ns, h1, hp⟩ := po_bind h
    obtain ⟨hl, hp⟩ := po_if hp
    obtain ⟨a, vs, rfl, ha, ra⟩ := look_lst hs hd (by assumption)
    rw [ints_view h1 ra] at ha
    exact ⟨a, ns, rfl, ha, hl, po_ret hs rv_int hp⟩
  · exact h.elim
theorem n_any (hc : X.calm = true) : CallR X (.builtin "any") (rn (cx X cl xn) T .any) := call_one (fun _ _ => rfl) fun pins s σ w st d x us Q I r hs hd hp => by
  obtain ⟨a, bs, rfl, ha, q⟩ := bools_inv hs hd hp
  exact cr_any hc pins s σ w.H _ us Q I r ⟨a, bs, rfl, ha, q⟩
theorem n_all (hc : X.calm = true) : CallR X (.builtin "all") (rn (cx X cl xn) T .all) := call_one (fun _ _ => rfl) fun pins s σ w st d x us Q I r hs hd hp => by
  obtain ⟨a, bs, rfl, ha, q⟩ := bools_inv hs hd hp
  exact cr_all hc pins s σ w.H _ us Q I r ⟨a, bs, rfl, ha, q⟩
theorem n_max (hc : X.calm = true) : CallR X (.builtin "max") (rn (cx X cl xn) T .max) := call_one (fun _ _ => rfl) fun pins s σ w st d x us Q I r hs hd hp => by
  obtain ⟨a, ns, rfl, ha, hl, q⟩ := ints_inv hs hd hp
  refine cr_max hc pins s σ w.H _ us Q I r ⟨a, ns, rfl, ha, hl, fun m h1 h2 => ?_⟩
  obtain ⟨h3, h4⟩ := maxL_spec ns hl
  have e : m = maxL ns := Int.le_antisymm (h4 m h1) (h2 _ h3)
  rw [e]; exact q
theorem n_min (hc : X.calm = true) : CallR X (.builtin "min") (rn (cx X cl xn) T .min) := call_one (fun _ _ => rfl) fun pins s σ w st d x us Q I r hs hd hp => by
  obtain ⟨a, ns, rfl, ha, hl, q⟩ := ints_inv hs hd hp
  refine cr_min hc pins s σ w.H _ us Q I r ⟨a, ns, rfl, ha, hl, fun m h1 h2 => ?_⟩
  obtain ⟨h3, h4⟩ := minL_spec ns hl
  have e : m = minL ns := Int.le_antisymm (h2 _ h3) (h4 m h1)
  rw [e]; exact q
theorem n_max2 (hc : X.calm = true) : CallR X (.builtin "max") (rn (cx X cl xn) T .max2) := call_two (fun _ _ => rfl) fun pins s σ w st d e x y us Q I r hs hd he hp => by
  obtain ⟨i, j, rfl, rfl, hp⟩ := apI_inv hd he hp
  exact call_max2 hc pins s σ w.H _ us Q I r ⟨i, j, rfl, po_ret hs rv_int hp⟩
theorem n_min2 (hc : X.calm = true) : CallR X (.builtin "min") (rn (cx X cl xn) T .min2) := call_two (fun _ _ => rfl) fun pins s σ w st d e x y us Q I r hs hd he hp => by
  obtain ⟨i, j, rfl, rfl, hp⟩ := apI_inv hd he hp
  exact call_min2 hc pins s σ w.H _ us Q I r ⟨i, j, rfl, po_ret hs rv_int hp⟩
/-! ### methods of lists -/
theorem meth_one {id : String} {o : On} {g : Sto → D → Po} (ho : ∀ s as, apn T o s as = one (g s) as)
    (k : ∀ (pins : List (Addr × Obj)) (s : Shared) (σ : L2.St) (w : Wd) (st : Sto) (d : D) (x : V) (v : Value) (us : List Value) (Q : VK), L2.Inv X pins σ w.H s → RelV x v → Vals [] us → Rs (cx X cl xn) w st → rv (cx X cl xn) w d x → po (cx X cl xn) w (g st d) Q →
      wpAny (model X.prog X.w) X.A (call (.builtin id) (v :: us)) (EP X pins σ Q) X.xe s) :
    MtR X id (fun x xs H Q => rn (cx X cl xn) T o (x :: xs) H Q) := by
  intro pins s σ H x vs v us Q I rx r h
  obtain ⟨w, st, ds, rfl, hs, hd, hp⟩ := h
  rw [ho] at hp
  obtain ⟨d, y, e, h1, hp⟩ := one_inv hd hp
  cases e
  exact k pins s σ w st d x v us Q I rx r hs h1 hp
theorem meth_two {id : String} {o : On} {g : Sto → D → D → Po} (ho : ∀ s as, apn T o s as = two (g s) as)
    (k : ∀ (pins : List (Addr × Obj)) (s : Shared) (σ : L2.St) (w : Wd) (st : Sto) (d e : D) (x y : V) (v : Value) (us : List Value) (Q : VK), L2.Inv X pins σ w.H s → RelV x v → Vals [y] us → Rs (cx X cl xn) w st → rv (cx X cl xn) w d x → rv (cx X cl xn) w e y →
      po (cx X cl xn) w (g st d e) Q → wpAny (model X.prog X.w) X.A (call (.builtin id) (v :: us)) (EP X pins σ Q) X.xe s) :
    MtR X id (fun x xs H Q => rn (cx X cl xn) T o (x :: xs) H Q) := by
  intro pins s σ H x vs v us Q I rx r h
  obtain ⟨w, st, ds, rfl, hs, hd, hp⟩ := h
  rw [ho] at hp
  obtain ⟨d, e, y, z, e0, h1, h2, hp⟩ := two_inv hd hp
  cases e0
  exact k pins s σ w st d e x z v us Q I rx r hs h1 h2 hp
theorem m_append : MtR X "list.append" (fun x xs H Q => rn (cx X cl xn) T .append (x :: xs) H Q) := meth_two (fun _ _ => rfl) fun pins s σ w st d e x y v us Q I rx r hs hd he hp => by
  obtain ⟨n, ds, vs, hn, rfl, hH, ra, hp⟩ := mut_view hs hd hp
  obtain ⟨hl, hp⟩ := po_if hp
  exact mt_append pins s σ w.H _ _ v us Q I rx r ⟨_, vs, y, rfl, rfl, hH, by rw [← ra.length]; exact hl, po_setL hs hn (ra.append (.cons he .nil)) rv_nonD hp⟩
theorem rvs.dropLast {c : Rc} {w : Wd} {ds : List D} {vs : List V} (h : rvs c w ds vs) : rvs c w ds.dropLast vs.dropLast := by
  rw [List.dropLast_eq_take, List.dropLast_eq_take, ← h.length]
  exact h.take _
theorem m_pop : MtR X "list.pop" (fun x xs H Q => rn (cx X cl xn) T .pop (x :: xs) H Q) := meth_one (fun _ _ => rfl) fun pins s σ w st d x v us Q I rx r hs hd hp => by
  obtain ⟨n, ds, vs, hn, rfl, hH, ra, hp⟩ := mut_view hs hd hp
  obtain ⟨z, h1, hp⟩ := po_bind hp
  obtain ⟨zv, h2, h3⟩ := ra.get _ _ h1
  exact mt_pop pins s σ w.H _ _ v us Q I rx r ⟨_, vs, zv, rfl, rfl, hH, by rw [← ra.length]; exact h2, po_setL hs hn ra.dropLast h3 hp⟩
theorem m_popAt : MtR X "list.pop" (fun x xs H Q => rn (cx X cl xn) T .popAt (x :: xs) H Q) := meth_two (fun _ _ => rfl) fun pins s σ w st d e x y v us Q I rx r hs hd he hp => by
  obtain ⟨i, rfl, hp⟩ := i1_inv he hp
  obtain ⟨n, ds, vs, hn, rfl, hH, ra, hp⟩ := mut_view hs hd hp
  obtain ⟨hb, hp⟩ := po_if hp
  obtain ⟨k, h1, hp⟩ := po_bind hp
  obtain ⟨z, h2, hp⟩ := po_bind hp
  obtain ⟨zv, h3, h4⟩ := ra.get _ _ h2
  exact mt_popAt pins s σ w.H _ _ v us Q I rx r ⟨_, vs, i, k, zv, rfl, rfl, hH, hb.1, hb.2, by rw [← ra.length]; exact h1, h3, po_setL hs hn (ra.eraseIdx k) h4 hp⟩
theorem m_extend : MtR X "list.extend" (fun x xs H Q => rn (cx X cl xn) T .extend (x :: xs) H Q) := meth_two (fun _ _ => rfl) fun pins s σ w st d e x y v us Q I rx r hs hd he hp => by
  obtain ⟨n, ds, vs, hn, rfl, hH, ra, hp⟩ := mut_view hs hd hp
  split at hp
  · obtain ⟨hl, hp⟩ := po_if hp
    obtain ⟨b, us', rfl, hb, rb⟩ := lst_view hs he (by assumption)
    rw [ra.length, rb.length] at hl
    exact mt_extend pins s σ w.H _ _ v us Q I rx r ⟨_, b, vs, us', rfl, rfl, hH, hb, hl, po_setL hs hn (ra.append rb) rv_nonD hp⟩
  · exact hp.elim
/-! ### isinstance -/
theorem ins_view {d : D} {v : V} {k : Nat} {ks : List Str} {ds : List D} (hs : Rs c w s) (hd : rv c w d v) (l : look s d = .ins k ks ds) : ∃ a dx vs, v = .ref a ∧ w.H a = some (.ins (c.cl k) dx (ks.zip vs)) ∧ ks.length = ds.length ∧ rvs c w ds vs := by
  cases d <;> simp only [look] at l <;> try cases l
  · simp only [rv] at hd
    obtain ⟨a, dx, vs, h1, h2, h3, h4, h5⟩ := hd
    exact ⟨a, dx, vs, h1, h3, h4, h5⟩
  · rename_i n
    simp only [rv] at hd
    obtain ⟨hn, rfl⟩ := hd
    obtain ⟨e, q, r⟩ := hs.at_ hn
    rw [q] at l
    simp only [Option.getD_some] at l
    subst l
    obtain ⟨dx, vs, h1, h2, h3⟩ := r
    exact ⟨_, dx, vs, rfl, h1, h2, h3⟩
theorem look_flat {d e : D} {v : V} (hs : Rs c w s) (hd : rv c w d v) (hl : look s d = e) (hf : ∀ a, ¬ ro c w e a) : d = e := by
  by_cases q : ∃ m, d = .ref m
  · obtain ⟨m, rfl⟩ := q
    simp only [rv] at hd
    obtain ⟨x, q, r⟩ := hs.at_ hd.1
    rw [look, q, Option.getD_some] at hl
    subst hl
    exact (hf _ r).elim
  · rw [look_ref fun m e => q ⟨m, e⟩] at hl
    exact hl
def Tv.v (c : Rc) : Tv → Value
  | .c k => .ref (c.cl k)
  | .t n => .type n
theorem dic_view {d : D} {v : V} {ks ds : List D} (hs : Rs c w s) (h : rv c w d v) (l : look s d = .dic ks ds) : ∃ a vs, v = .ref a ∧ IsDic w.H a ks vs := by
  cases d <;> simp only [look] at l <;> try cases l
  · simp only [rv] at h
    obtain ⟨a, vs, h1, _, h2, _⟩ := h
    exact ⟨a, vs, h1, h2⟩
  · rename_i n
    simp only [rv] at h
    obtain ⟨hn, rfl⟩ := h
    obtain ⟨e, q, r⟩ := hs.at_ hn
    rw [q] at l
    simp only [Option.getD_some] at l
    subst l
    obtain ⟨vs, h1, _⟩ := r
    exact ⟨_, vs, rfl, h1⟩
theorem tv_view {d : D} {v : V} {t : Tv} (hs : Rs c w s) (hd : rv c w d v) (h : tvD s d = some t) (hk : ∀ k, t = .c k → Kc c.K (c.cl k)) : TyX c.K w.H v (t.v c) := by
  unfold tvD at h
  split at h <;> try cases h
  · rename_i hl
    obtain ⟨a, dx, vs, rfl, h1, h2, h3⟩ := ins_view hs hd hl
    have kc := hk _ rfl
    exact .base (.ins h1 kc.cls kc.ha kc.hn kc.htk kc.hm)
  · rename_i hl
    have e := look_flat hs hd hl fun _ h => h
    subst e; simp only [rv] at hd; subst hd; exact .base .non
  · rename_i hl
    have e := look_flat hs hd hl fun _ h => h
    subst e; simp only [rv] at hd; subst hd; exact .base (.bl _)
  · rename_i hl
    have e := look_flat hs hd hl fun _ h => h
    subst e; simp only [rv] at hd; subst hd; exact .base (.int _)
  · rename_i hl
    have e := look_flat hs hd hl fun _ h => h
    subst e; simp only [rv] at hd; subst hd; exact .base (.str _)
  · rename_i hl
    obtain ⟨a, vs, rfl, ha, ra⟩ := tup_view hs hd hl
    rcases ha with ha | ⟨o, its, n, ha, hc, _⟩
    · exact .base (.tup ha)
    · exact .kTuple ha hc
  · rename_i hl
    obtain ⟨a, vs, rfl, ha, ra⟩ := lst_view hs hd hl
    exact .base (.lst ha)
  · rename_i hl
    obtain ⟨a, vs, rfl, ha⟩ := dic_view hs hd hl
    rcases ha with ⟨_, ha, _⟩ | ⟨_, ha, _⟩
    · exact .base (.dK ha)
    · exact .base (.dT ha)
theorem kitD_ok {t : Tv} {e : D} {u : V} {b : Bool} (F : Kf c T) (he : rv c w e u) (h : kitD T t e = some b) : (∀ k, t = .c k → Kc c.K (c.cl k)) ∧ ∃ uc, ClsV u uc ∧ PySem.W.kitOne c.K (t.v c) uc = some b := by
  unfold kitD at h
  split at h <;> try cases h
  all_goals (simp only [rv] at he; subst he)
  · obtain ⟨kc, e1⟩ := F.cc _ _ _ h
    exact ⟨fun k e => by cases e; exact kc, _, .own _, e1⟩
  · obtain ⟨kc, e1⟩ := F.ic _ _ _ h
    exact ⟨fun k e => by cases e; exact kc, _, .ty _, e1⟩
  · exact ⟨(fun _ e => nomatch e), _, .own _, F.tc _ _ _ h⟩
  · exact ⟨(fun _ e => nomatch e), _, .ty _, h⟩
theorem kitAny_ok {t : Tv} (F : Kf c T) : ∀ {es : List D} {vs : List V} {b : Bool}, rvs c w es vs → kitAnyD T t es = some b → (∀ e, e ∈ es → ∃ b, kitD T t e = some b) ∨ True →
    (es ≠ [] → ∀ k, t = .c k → Kc c.K (c.cl k)) ∧ (∀ u ∈ vs, ∃ uc, ClsV u uc) → ∃ us, Paired ClsV vs us ∧ PySem.W.kitAny c.K (t.v c) us = some b
  | [], vs, b, r, h, _, _ => by
    simp only [rvs] at r
    subst r
    exact ⟨[], .nil, h⟩
  | e :: es, vs, b, r, h, _, g => by
    simp only [rvs] at r
    obtain ⟨u, r', rfl, he, hr⟩ := r
    unfold kitAnyD at h
    cases hk : kitD T t e with
    | none => rw [hk] at h; cases h
    | some b' =>
      obtain ⟨kc, uc, hu, h1⟩ := kitD_ok F he hk
      rw [hk] at h
      cases b' with
      | true =>
        have h : some true = some b := h
        cases h
        obtain ⟨us, hp⟩ : ∃ us, Paired ClsV r' us := by
          have : ∀ l : List V, (∀ u ∈ l, ∃ uc, ClsV u uc) → ∃ us, Paired ClsV l us := by
            intro l
            induction l with
            | nil => exact fun _ => ⟨[], .nil⟩
            | cons x l ih => exact fun g => let ⟨us, p⟩ := ih fun u hu => g u (List.mem_cons_of_mem _ hu); let ⟨uc, q⟩ := g x List.mem_cons_self; ⟨uc :: us, .cons q p⟩
          exact this r' fun u hu => g.2 u (List.mem_cons_of_mem _ hu)
        exact ⟨uc :: us, .cons hu hp, by unfold PySem.W.kitAny; rw [h1]⟩
      | false =>
        obtain ⟨us, hp, h2⟩ := kitAny_ok F hr h (.inr trivial) ⟨fun _ => kc, fun u hu => g.2 u (List.mem_cons_of_mem _ hu)⟩
        exact ⟨uc :: us, .cons hu hp, by unfold PySem.W.kitAny; rw [h1]; exact h2⟩
theorem clsD_ok {e : D} {u : V} (he : rv c w e u) (h : clsD e = true) : ∃ uc, ClsV u uc := by
  cases e <;> simp only [clsD, Bool.false_eq_true] at h
  · simp only [rv] at he; subst he; exact ⟨_, .own _⟩
  · simp only [rv] at he; subst he; exact ⟨_, .ty _⟩
theorem clsDs_ok : ∀ {es : List D} {vs : List V}, rvs c w es vs → es.all clsD = true → ∀ u ∈ vs, ∃ uc, ClsV u uc
  | [], vs, r, _, u, hu => by simp only [rvs] at r; subst r; cases hu
  | e :: es, vs, r, h, u, hu => by
    simp only [rvs] at r
    obtain ⟨x, r', rfl, he, hr⟩ := r
    simp only [List.all_cons, Bool.and_eq_true] at h
    rcases List.mem_cons.mp hu with rfl | hu
    · exact clsD_ok he h.1
    · exact clsDs_ok hr h.2 u hu
theorem n_isi (F : Kf (cx X cl xn) T) : CallR X (.builtin "isinstance") (rn (cx X cl xn) T .isi) := call_two (fun _ _ => rfl) fun pins s σ w st d e x y us Q I r hs hd he hp => by
  obtain ⟨t, ht, hp⟩ := po_bind hp
  split at hp
  · rename_i e1 es _
    obtain ⟨hc, hp⟩ := po_if hp
    obtain ⟨b, h1, hp⟩ := po_bind hp
    simp only [rv] at he
    obtain ⟨a, vs, rfl, ha, ra⟩ := he
    have hk1 : ∃ b, kitD T t e1 = some b := by
      unfold kitAnyD at h1
      cases hk : kitD T t e1 with
      | none => rw [hk] at h1; cases h1
      | some b => exact ⟨b, rfl⟩
    obtain ⟨b1, hk1⟩ := hk1
    have ra' := ra
    simp only [rvs] at ra'
    obtain ⟨u1, _, _, he1, _⟩ := ra'
    obtain ⟨kc, _⟩ := kitD_ok F he1 hk1
    obtain ⟨us', hp', h2⟩ := kitAny_ok F ra h1 (.inr trivial) ⟨fun _ => kc, clsDs_ok ra hc⟩
    have hT := tv_view hs hd ht kc
    rcases ha with ha | ⟨⟨oc, od, odt, osl⟩, its, n, ha, hc', hd', hz, hv⟩
    · exact call_isiT pins s σ w.H _ us Q I r ⟨x, a, vs, _, us', b, rfl, ha, hp', hT, h2, po_ret hs rv_bl hp⟩
    · simp only at hc' hd'
      subst hc' hd'
      have e := ClsV.all hp' hv
      refine call_isiK pins s σ w.H _ us Q I r ⟨x, a, od, its.toList, n, osl, _, b, rfl, by simpa using ha, hT, by rw [e]; exact h2, po_ret hs rv_bl hp⟩
  · obtain ⟨b, h1, hp⟩ := po_bind hp
    obtain ⟨kc, uc, hu, h2⟩ := kitD_ok F he h1
    exact call_isi pins s σ w.H _ us Q I r ⟨x, y, _, uc, b, rfl, hu, tv_view hs hd ht kc, h2, po_ret hs rv_bl hp⟩
end
end Ir
end
section
set_option Elab.async false
set_option linter.all false
set_option maxRecDepth 100000
namespace Ir
open PySem PySem.Spec PyProof.Rows L2

theorem _root_.L2.PE.imp {X : Cx} {e : Expr} {t t' : TE} (h : PE X e t) (k : ∀ σ H Q, t' σ H Q → t σ H Q) : PE X e t' := ⟨fun pins s σ H Q I q => h.run pins s σ H Q I (k σ H Q q)⟩
theorem _root_.L2.PT.imp {X : Cx} {e : Expr} {t t' : TT} (h : PT X e t) (k : ∀ σ H Q, t' σ H Q → t σ H Q) : PT X e t' := ⟨fun pins s σ H Q I q => h.run pins s σ H Q I (k σ H Q q)⟩
theorem _root_.L2.PW.imp {X : Cx} {e : Expr} {t t' : TT} (h : PW X e t) (k : ∀ σ H Q, t' σ H Q → t σ H Q) : PW X e t' := ⟨fun wh pins s σ H Q I q => h.run wh pins s σ H Q I (k σ H Q q)⟩
theorem _root_.L2.PA.imp {X : Cx} {e : List Expr} {t t' : TA} (h : PA X e t) (k : ∀ σ H Q, t' σ H Q → t σ H Q) : PA X e t' := ⟨fun pos pins s σ H Q I q => h.run pos pins s σ H Q I (k σ H Q q)⟩
theorem _root_.L2.PS.imp {X : Cx} {e : Stmt} {t t' : TS} (h : PS X e t) (k : ∀ D σ H, t' D σ H → t D σ H) : PS X e t' := ⟨fun pins s σ H D I q => h.run pins s σ H D I (k D σ H q)⟩
theorem _root_.L2.PSs.imp {X : Cx} {e : List Stmt} {t t' : TS} (h : PSs X e t) (k : ∀ D σ H, t' D σ H → t D σ H) : PSs X e t' := ⟨fun pins s σ H D I q => h.run pins s σ H D I (k D σ H q)⟩

/-! ### truth -/
def tru (s : Sto) (d : D) : Option Bool := match d with
  | .non => some false
  | .bl b => some b
  | .int i => some (i != 0)
  | .str x => if x.length ≤ sizeLine then some ((x.length : Int) != 0) else none
  | d => (seqOf s d).map fun ds => !ds.isEmpty
theorem tru_view {c : Rc} {w : Wd} {s : Sto} {d : D} {v : V} {b : Bool} (hs : Rs c w s) (hd : rv c w d v) (h : tru s d = some b) : TruV c.K v w.H b := by
  unfold tru at h
  split at h
  · simp only [rv] at hd; subst hd; cases h; rfl
  · simp only [rv] at hd; subst hd; cases h; rfl
  · simp only [rv] at hd; subst hd; cases h; rfl
  · split at h
    · simp only [rv] at hd; subst hd; cases h; exact ⟨by assumption, rfl⟩
    · cases h
  · rw [Option.map_eq_some_iff] at h
    obtain ⟨ds, h1, rfl⟩ := h
    obtain ⟨a, vs, rfl, ha, ra⟩ := seq_view hs hd h1
    rcases ha with ha | ha
    · exact .inl ⟨vs, ha, by rw [ra.isEmpty]⟩
    · exact .inr (.inl ⟨vs, ha, by rw [ra.isEmpty]⟩)

/-! ### meanings put together -/
def m2 (o : O2) (fa fb : Fe) : Fe := fun env s => (fa env s).bind fun d s => (fb env s).bind fun e s => ofPo (ap2 o s d e)
def mn (T : Tab) (o : On) (fs : Fs) : Fe := fun env s => (fs env s).bind fun ds s => ofPo (apn T o s ds)
def ofT (o : Option Bool) (f : Bool → R D) : R D := match o with
  | some b => f b
  | none => .bad
def mAnd (fa fb : Fe) : Fe := fun env s => (fa env s).bind fun d s => ofT (tru s d) fun b => if b = true then fb env s else .ok d s
def mOr (fa fb : Fe) : Fe := fun env s => (fa env s).bind fun d s => ofT (tru s d) fun b => if b = true then .ok d s else fb env s
def mNot (fa : Fe) : Fe := fun env s => (fa env s).bind fun d s => ofT (tru s d) fun b => .ok (.bl (!b)) s
def sNil : Fs := fun _ s => .ok [] s
def sCons (f : Fe) (fs : Fs) : Fs := fun env s => (f env s).bind fun d s => (fs env s).bind fun ds s => .ok (d :: ds) s
/-- a test: its truth -/
abbrev Ft := Ev → Sto → R Bool
def postt (c : Rc) (W : WX) (σ : L2.St) (w : Wd) (r : R Bool) (Q : Bool → Hp → Prop) : Prop := match r with
  | .ok b s => ∀ (w' : Wd), Ext w w' → Rs c w' s → Q b w'.H
  | .ex k ds s => ∀ (w' : Wd) (dx : Addr), Ext w w' → Rs c w' s → xr c w' k ds dx → W (.ref (c.cl k)) (some dx) σ w'.H
  | .bad => False
theorem postt.ext {c : Rc} {W : WX} {σ : L2.St} {w w' : Wd} {r : R Bool} {Q : Bool → Hp → Prop} (h : postt c W σ w r Q) (e : Ext w w') : postt c W σ w' r Q := by
  cases r with
  | ok d s => exact fun w2 e2 => h w2 (e.trans e2)
  | ex k ds s => exact fun w2 dx e2 => h w2 dx (e.trans e2)
  | bad => exact h
def rdt (c : Rc) (W : WX) (f : Ft) : TT := fun σ H Q => ∃ (w : Wd) (env : Ev) (s : Sto), w.H = H ∧ Rs c w s ∧ re c w env σ ∧ postt c W σ w (f env s) Q
def ofTt (o : Option Bool) (s : Sto) : R Bool := match o with
  | some b => .ok b s
  | none => .bad
def tVal (f : Fe) : Ft := fun env s => (f env s).bind fun d s => ofTt (tru s d) s
def tAnd' (fa fb : Ft) : Ft := fun env s => (fa env s).bind fun b s => if b = true then fb env s else .ok false s
def tOr' (fa fb : Ft) : Ft := fun env s => (fa env s).bind fun b s => if b = true then .ok true s else fb env s
def tNot' (fa : Ft) : Ft := fun env s => (fa env s).bind fun b s => .ok (!b) s
def mIf (ft : Ft) (fa fb : Fe) : Fe := fun env s => (ft env s).bind fun b s => if b = true then fa env s else fb env s
def mChain (o1 o2 : O2) (fa fb fc : Fe) : Fe := fun env s => (fa env s).bind fun x s => (fb env s).bind fun y s => (ofPo (ap2 o1 s x y)).bind fun z s => match z with
  | .bl true => (fc env s).bind fun u s => ofPo (ap2 o2 s y u)
  | .bl false => .ok (.bl false) s
  | _ => .bad

section
variable {X : Cx} {c : Rc} {T : Tab} {W : WX} {a b e : Expr} {es : List Expr} {fa fb fc : Fe} {fs : Fs} {ft fu : Ft} {pos : Pos} {cl : Nat → Addr} {xn : Xn}
theorem post_bind {σ : L2.St} {w : Wd} {f : R D} {g : D → Sto → R D} {Q : VK} (h : post c W σ w (f.bind g) Q) :
    post c W σ w f fun v H1 => ∃ (w' : Wd) (d : D) (s' : Sto), w'.H = H1 ∧ Ext w w' ∧ Rs c w' s' ∧ rv c w' d v ∧ post c W σ w' (g d s') Q := by
  cases f with
  | ok d s => exact fun w' v e r q => ⟨w', d, s, rfl, e, r, q, post.ext (r := g d s) h e⟩
  | ex k ds s => exact h
  | bad => exact h
theorem posts_bind {σ : L2.St} {w : Wd} {f : R (List D)} {g : List D → Sto → R D} {Q : VK} (h : post c W σ w (f.bind g) Q) :
    posts c W σ w f fun vs H1 => ∃ (w' : Wd) (ds : List D) (s' : Sto), w'.H = H1 ∧ Ext w w' ∧ Rs c w' s' ∧ rvs c w' ds vs ∧ post c W σ w' (g ds s') Q := by
  cases f with
  | ok d s => exact fun w' v e r q => ⟨w', d, s, rfl, e, r, q, post.ext (r := g d s) h e⟩
  | ex k ds s => exact h
  | bad => exact h
theorem postt_bind {σ : L2.St} {w : Wd} {f : R Bool} {g : Bool → Sto → R D} {Q : VK} (h : post c W σ w (f.bind g) Q) :
    postt c W σ w f fun b H1 => ∃ (w' : Wd) (s' : Sto), w'.H = H1 ∧ Ext w w' ∧ Rs c w' s' ∧ post c W σ w' (g b s') Q := by
  cases f with
  | ok d s => exact fun w' e r => ⟨w', s, rfl, e, r, post.ext (r := g d s) h e⟩
  | ex k ds s => exact h
  | bad => exact h
theorem post_bindt {σ : L2.St} {w : Wd} {f : R D} {g : D → Sto → R Bool} {Q : Bool → Hp → Prop} (h : postt c W σ w (f.bind g) Q) :
    post c W σ w f fun v H1 => ∃ (w' : Wd) (d : D) (s' : Sto), w'.H = H1 ∧ Ext w w' ∧ Rs c w' s' ∧ rv c w' d v ∧ postt c W σ w' (g d s') Q := by
  cases f with
  | ok d s => exact fun w' v e r q => ⟨w', d, s, rfl, e, r, q, postt.ext (r := g d s) h e⟩
  | ex k ds s => exact h
  | bad => exact h
theorem postt_bindt {σ : L2.St} {w : Wd} {f : R Bool} {g : Bool → Sto → R Bool} {Q : Bool → Hp → Prop} (h : postt c W σ w (f.bind g) Q) :
    postt c W σ w f fun b H1 => ∃ (w' : Wd) (s' : Sto), w'.H = H1 ∧ Ext w w' ∧ Rs c w' s' ∧ postt c W σ w' (g b s') Q := by
  cases f with
  | ok d s => exact fun w' e r => ⟨w', s, rfl, e, r, postt.ext (r := g d s) h e⟩
  | ex k ds s => exact h
  | bad => exact h
theorem post.mono {σ : L2.St} {w : Wd} {r : R D} {Q Q' : VK} (h : post c W σ w r Q) (k : ∀ v H, Q v H → Q' v H) : post c W σ w r Q' := h.imp fun _ _ _ _ _ _ _ _ q => k _ _ q
theorem posts.mono {σ : L2.St} {w : Wd} {r : R (List D)} {Q Q' : List V → Hp → Prop} (h : posts c W σ w r Q) (k : ∀ v H, Q v H → Q' v H) : posts c W σ w r Q' := by
  cases r with
  | ok d s => exact fun w' v e r q => k _ _ (h w' v e r q)
  | ex k ds s => exact h
  | bad => exact h
theorem postt.mono {σ : L2.St} {w : Wd} {r : R Bool} {Q Q' : Bool → Hp → Prop} (h : postt c W σ w r Q) (k : ∀ v H, Q v H → Q' v H) : postt c W σ w r Q' := by
  cases r with
  | ok d s => exact fun w' e r => k _ _ (h w' e r)
  | ex k ds s => exact h
  | bad => exact h
theorem rd_op2 {o : O2} {σ : L2.St} {H : Hp} {Q : VK} (h : rd c W (m2 o fa fb) σ H Q) : tOp (r2 c o) (rd c W fa) (rd c W fb) σ H Q := by
  obtain ⟨w, env, s, rfl, hs, he, hp⟩ := h
  refine ⟨w, env, s, rfl, hs, he, (post_bind hp).mono fun x H1 ⟨w1, d, s1, e1, x1, r1, q1, p1⟩ => ?_⟩
  refine ⟨w1, env, s1, e1, r1, he.mono x1, (post_bind p1).mono fun y H2 ⟨w2, e, s2, e2, x2, r2', q2, p2⟩ => ?_⟩
  exact ⟨w2, s2, d, e, e2, r2', q1.mono x2, q2, post_of p2⟩
theorem x_op2 {op : Operator} {o : O2} (ho : OpR X (binaryOp op) (r2 c o)) (ha : PE X a (rd c W fa)) (hb : PE X b (rd c W fb)) : PE X (.BinOp a op b pos) (rd c W (m2 o fa fb)) := (pe_op ho ha hb).imp fun _ _ _ h => rd_op2 h
theorem x_cmp {op : CmpOp} {o : O2} (ho : OpR X (compareOp op) (r2 c o)) (ha : PE X a (rd c W fa)) (hb : PE X b (rd c W fb)) (hm : behindInMarks op b = false) : PE X (.Compare a [op] [b] pos) (rd c W (m2 o fa fb)) := (pe_cmpR ho ha hb hm).imp fun _ _ _ h => rd_op2 h
theorem x_ix (ha : PE X a (rd (cx X cl xn) W fa)) (hb : PE X b (rd (cx X cl xn) W fb)) (hs : PlainIx b) : PE X (.Subscript a b pos) (rd (cx X cl xn) W (m2 .ix fa fb)) := (pe_ix ix_ok ha hb hs).imp fun _ _ _ h => rd_op2 h
theorem x_var {i : Nat} {x : Str} (hN : X.N[i]? = some x) (hv : Vis X.env.scope x) (hd : (x == ("__debug__" : Str)) = false) (hcd : (x == ("__classdict__" : Str)) = false) :
    PE X (.Name x pos) (rd c W fun env s => match env[i]? with
      | some (some d) => .ok d s
      | _ => .bad) := (pe_var hN hv hd hcd).imp fun σ H Q ⟨w, env, s, hw, hs, he, hp⟩ => by
  dsimp only at hp
  split at hp
  · obtain ⟨v, h1, h2⟩ := he.2 _ _ (by assumption)
    exact ⟨v, h1, hw ▸ hp w v (.refl w) hs h2⟩
  · exact hp.elim
theorem x_con {d : D} {v : V} (h : PE X e (tC v)) (hr : ∀ w, rv c w d v) : PE X e (rd c W fun _ s => .ok d s) := h.imp fun σ H Q ⟨w, env, s, hw, hs, he, hp⟩ => hw ▸ hp w v (.refl w) hs (hr w)
/-! lists of expressions -/
theorem x_nil : PA X [] (rda c W sNil) := pa_nil.imp fun σ H Q h => rda_nil h
theorem x_cons (h1 : PE X e (rd c W fa)) (h2 : PA X es (rda c W fs)) (hs : starEach (e :: es) X.env = (false, eval e X.env) :: starEach es X.env) : PA X (e :: es) (rda c W (sCons fa fs)) := (pa_cons h1 h2 hs).imp fun σ H Q h => rda_cons h
theorem rd_n {o : On} {σ : L2.St} {H : Hp} {Q : VK} (h : rd c W (mn T o fs) σ H Q) : rda c W fs σ H fun vs H1 => rn c T o vs H1 Q := by
  obtain ⟨w, env, s, rfl, hs, he, hp⟩ := h
  exact ⟨w, env, s, rfl, hs, he, (posts_bind hp).mono fun vs H1 ⟨w1, ds, s1, e1, x1, r1, q1, p1⟩ => ⟨w1, s1, ds, e1, r1, q1, post_of p1⟩⟩
theorem x_blt {o : On} {id : String} {x : Str} {p : Pos} (hc : CallR X (.builtin id) (rn c T o)) (hg : Gl X x) (hm : X.mg x = none) (hv : bootBuiltins x = some (.builtin id)) (ha : PA X (e :: es) (rda c W fs)) (hn : x ≠ "__name__") (hdb : (x == ("__debug__" : Str)) = false)
    (he : starEach (e :: es) X.env = (false, eval e X.env) :: starEach es X.env) (hpl : (backTo pos (starEach es X.env)).any (·.1) = false) : PE X (.Call (.Name x p) (e :: es) [] pos) (rd c W (mn T o fs)) := (pe_callB hc hg hm hv ha hn hdb he hpl).imp fun σ H Q h => rd_n h
theorem x_bty {o : On} {ty : String} {x : Str} {p : Pos} (hc : CallR X (.type ty) (rn c T o)) (hg : Gl X x) (hm : X.mg x = none) (hv : bootBuiltins x = some (.type ty)) (ha : PA X (e :: es) (rda c W fs)) (hn : x ≠ "__name__") (hdb : (x == ("__debug__" : Str)) = false)
    (he : starEach (e :: es) X.env = (false, eval e X.env) :: starEach es X.env) (hpl : (backTo pos (starEach es X.env)).any (·.1) = false) : PE X (.Call (.Name x p) (e :: es) [] pos) (rd c W (mn T o fs)) := (pe_callTy hc hg hm hv ha hn hdb he hpl).imp fun σ H Q h => rd_n h
theorem x_tup {x1 : Nat} (h : PA X es (rda c W fs)) : PE X (.Tuple es x1 pos) (rd c W (mn T .tup fs)) := (pe_tup h).imp fun σ H Q ⟨w, env, s, hw, hs, he, hp⟩ => by
  subst hw
  refine ⟨w, env, s, rfl, hs, he, (posts_bind hp).mono fun vs H1 ⟨w1, ds, s1, e1, x1, r1, q1, p1⟩ => ?_⟩
  subst e1
  obtain ⟨hl, p1⟩ := po_if (post_of p1)
  exact ⟨by rw [← q1.length]; exact hl, fun p hn => po_newT r1 q1 hn p1⟩
theorem x_lst {m : Bool} (h : PA X es (rda c W fs)) : PE X (.List es pos) (rd c W (mn T (.lst m) fs)) := (pe_lst h).imp fun σ H Q ⟨w, env, s, hw, hs, he, hp⟩ => by
  subst hw
  refine ⟨w, env, s, rfl, hs, he, (posts_bind hp).mono fun vs H1 ⟨w1, ds, s1, e1, x1, r1, q1, p1⟩ => ?_⟩
  subst e1
  obtain ⟨hl, p1⟩ := po_if (post_of p1)
  exact ⟨by rw [← q1.length]; exact hl, fun p hn => po_newL r1 q1 hn p1⟩
theorem x_neg (ha : PE X a (rd c W fa)) : PE X (.UnaryOp .USub a pos) (rd c W (mn T .neg (sCons fa sNil))) := (pe_un un_neg ha).imp fun σ H Q ⟨w, env, s, hw, hs, he, hp⟩ => by
  subst hw
  have hp : post c W σ w (((fa env s).bind fun d s => .ok [d] s : R (List D)).bind fun ds s => ofPo (apn T .neg s ds)) Q := by
    simpa only [mn, sCons, sNil, R.bind] using hp
  have e : (((fa env s).bind fun d s => .ok [d] s : R (List D)).bind fun ds s => ofPo (apn T .neg s ds)) = (fa env s).bind fun d s => ofPo (apn T .neg s [d]) := by cases fa env s <;> rfl
  rw [e] at hp
  refine ⟨w, env, s, rfl, hs, he, (post_bind hp).mono fun x H1 ⟨w1, d, s1, e1, x1, r1, q1, p1⟩ => ?_⟩
  subst e1
  obtain ⟨i, rfl, p2⟩ := i1_inv q1 (show po c w1 (apI1 d fun i => ret s1 (.int (-i))) Q from post_of p1)
  exact ⟨i, rfl, po_ret r1 rv_int p2⟩
/-! truth -/
theorem x_and {rest : List Expr} {p : Pos} (hk : c.K = X.K) (ha : PE X a (rd c W fa)) (hb : PE X (.BoolOp .And (b :: rest) p) (rd c W fb)) : PE X (.BoolOp .And (a :: b :: rest) p) (rd c W (mAnd fa fb)) := (pe_andT ha hb).imp fun σ H Q ⟨w, env, s, hw, hs, he, hp⟩ => by
  subst hw
  refine ⟨w, env, s, rfl, hs, he, (post_bind hp).mono fun x H1 ⟨w1, d, s1, e1, x1, r1, q1, p1⟩ => ?_⟩
  subst e1
  cases ht : tru s1 d with
  | none => rw [ht] at p1; exact p1.elim
  | some k =>
    rw [ht] at p1
    have p1 : post c W σ w1 (if k = true then fb env s1 else .ok d s1) Q := p1
    refine ⟨k, hk ▸ tru_view r1 q1 ht, ?_⟩
    split
    · rename_i hb'
      rw [if_pos hb'] at p1
      exact ⟨w1, env, s1, rfl, r1, he.mono x1, p1⟩
    · rename_i hb'
      rw [if_neg hb'] at p1
      exact p1 w1 x (.refl w1) r1 q1
theorem x_or {rest : List Expr} {p : Pos} (hk : c.K = X.K) (ha : PE X a (rd c W fa)) (hb : PE X (.BoolOp .Or (b :: rest) p) (rd c W fb)) : PE X (.BoolOp .Or (a :: b :: rest) p) (rd c W (mOr fa fb)) := (pe_orT ha hb).imp fun σ H Q ⟨w, env, s, hw, hs, he, hp⟩ => by
  subst hw
  refine ⟨w, env, s, rfl, hs, he, (post_bind hp).mono fun x H1 ⟨w1, d, s1, e1, x1, r1, q1, p1⟩ => ?_⟩
  subst e1
  cases ht : tru s1 d with
  | none => rw [ht] at p1; exact p1.elim
  | some k =>
    rw [ht] at p1
    have p1 : post c W σ w1 (if k = true then .ok d s1 else fb env s1) Q := p1
    refine ⟨k, hk ▸ tru_view r1 q1 ht, ?_⟩
    split
    · rename_i hb'
      rw [if_pos hb'] at p1
      exact p1 w1 x (.refl w1) r1 q1
    · rename_i hb'
      rw [if_neg hb'] at p1
      exact ⟨w1, env, s1, rfl, r1, he.mono x1, p1⟩
theorem x_one {op : BoolOp} {p : Pos} (ha : PE X a (rd c W fa)) : PE X (.BoolOp op [a] p) (rd c W fa) := pe_one ha
theorem x_not (hk : c.K = X.K) (ha : PE X a (rd c W fa)) : PE X (.UnaryOp .Not a pos) (rd c W (mNot fa)) := (pe_notT ha).imp fun σ H Q ⟨w, env, s, hw, hs, he, hp⟩ => by
  subst hw
  refine ⟨w, env, s, rfl, hs, he, (post_bind hp).mono fun x H1 ⟨w1, d, s1, e1, x1, r1, q1, p1⟩ => ?_⟩
  subst e1
  cases ht : tru s1 d with
  | none => rw [ht] at p1; exact p1.elim
  | some k =>
    rw [ht] at p1
    exact ⟨k, hk ▸ tru_view r1 q1 ht, p1 w1 _ (.refl w1) r1 rv_bl⟩
/-! tests -/
theorem y_val (hk : c.K = X.K) (ha : PE X a (rd c W fa)) (he : ∀ whole, isTrue a X.env whole = (do let v ← whole; standAt a.pos; holding [v] (truthy v))) : PT X a (rdt c W (tVal fa)) := (pt_truth ha he).imp fun σ H Q ⟨w, env, s, hw, hs, he, hp⟩ => by
  subst hw
  refine ⟨w, env, s, rfl, hs, he, (post_bindt hp).mono fun x H1 ⟨w1, d, s1, e1, x1, r1, q1, p1⟩ => ?_⟩
  subst e1
  cases ht : tru s1 d with
  | none => rw [ht] at p1; exact p1.elim
  | some k =>
    rw [ht] at p1
    exact ⟨k, hk ▸ tru_view r1 q1 ht, p1 w1 (.refl w1) r1⟩
theorem bl_of {w : Wd} {d : D} {v : V} {s : Sto} {b : Bool} (h : rv c w d v) (k : d = .bl b) : v = .bl b := by subst k; simpa only [rv] using h
/-- a comparison as a test: its value is a bool -/
def tCmpB (f : Fe) : Ft := fun env s => (f env s).bind fun d s => match d with
  | .bl b => .ok b s
  | _ => .bad
theorem y_cmp {op : CmpOp} {o : O2} (ho : OpR X (compareOp op) (r2 c o)) (ha : PE X a (rd c W fa)) (hb : PE X b (rd c W fb)) (hm : behindInMarks op b = false) : PT X (.Compare a [op] [b] pos) (rdt c W (tCmpB (m2 o fa fb))) := (pt_cmpR ho ha hb hm).imp fun σ H Q ⟨w, env, s, hw, hs, he, hp⟩ => by
  subst hw
  refine rd_op2 ⟨w, env, s, rfl, hs, he, (post_bindt hp).mono fun x H1 ⟨w1, d, s1, e1, x1, r1, q1, p1⟩ => ?_⟩
  subst e1
  cases d <;> try exact p1.elim
  simp only [rv] at q1
  exact ⟨_, q1, p1 w1 (.refl w1) r1⟩
theorem y_not (ha : PT X a (rdt c W ft)) : PT X (.UnaryOp .Not a pos) (rdt c W (tNot' ft)) := (pt_not ha).imp fun σ H Q ⟨w, env, s, hw, hs, he, hp⟩ => by
  subst hw
  exact ⟨w, env, s, rfl, hs, he, (postt_bindt hp).mono fun b H1 ⟨w1, s1, e1, x1, r1, p1⟩ => e1 ▸ p1 w1 (.refl w1) r1⟩
theorem y_and1 {p : Pos} (ha : PT X a (rdt c W ft)) : PW X (.BoolOp .And [a] p) (rdt c W ft) := pw_and1 ha
theorem y_or1 {p : Pos} (ha : PT X a (rdt c W ft)) : PW X (.BoolOp .Or [a] p) (rdt c W ft) := pw_or1 ha
theorem y_and {rest : List Expr} {p : Pos} (ha : PT X a (rdt c W ft)) (hb : PW X (.BoolOp .And (b :: rest) p) (rdt c W fu)) : PW X (.BoolOp .And (a :: b :: rest) p) (rdt c W (tAnd' ft fu)) := PW.imp (pw_and ha hb) fun σ H Q ⟨w, env, s, hw, hs, he, hp⟩ => by
  subst hw
  refine ⟨w, env, s, rfl, hs, he, (postt_bindt hp).mono fun b H1 ⟨w1, s1, e1, x1, r1, p1⟩ => ?_⟩
  subst e1
  split
  · rename_i h; rw [if_pos h] at p1; exact ⟨w1, env, s1, rfl, r1, he.mono x1, p1⟩
  · rename_i h; rw [if_neg h] at p1; exact p1 w1 (.refl w1) r1
theorem y_or {rest : List Expr} {p : Pos} (ha : PT X a (rdt c W ft)) (hb : PW X (.BoolOp .Or (b :: rest) p) (rdt c W fu)) : PW X (.BoolOp .Or (a :: b :: rest) p) (rdt c W (tOr' ft fu)) := PW.imp (pw_or ha hb) fun σ H Q ⟨w, env, s, hw, hs, he, hp⟩ => by
  subst hw
  refine ⟨w, env, s, rfl, hs, he, (postt_bindt hp).mono fun b H1 ⟨w1, s1, e1, x1, r1, p1⟩ => ?_⟩
  subst e1
  split
  · rename_i h; rw [if_pos h] at p1; exact p1 w1 (.refl w1) r1
  · rename_i h; rw [if_neg h] at p1; exact ⟨w1, env, s1, rfl, r1, he.mono x1, p1⟩
theorem x_ite {t : Expr} (ht : PT X t (rdt c W ft)) (ha : PE X a (rd c W fa)) (hb : PE X b (rd c W fb)) : PE X (.IfExp t a b pos) (rd c W (mIf ft fa fb)) := (pe_ifExp ht ha hb).imp fun σ H Q ⟨w, env, s, hw, hs, he, hp⟩ => by
  subst hw
  refine ⟨w, env, s, rfl, hs, he, (postt_bind hp).mono fun b H1 ⟨w1, s1, e1, x1, r1, p1⟩ => ?_⟩
  subst e1
  split
  · rename_i h; rw [if_pos h] at p1; exact ⟨w1, env, s1, rfl, r1, he.mono x1, p1⟩
  · rename_i h; rw [if_neg h] at p1; exact ⟨w1, env, s1, rfl, r1, he.mono x1, p1⟩
end
end Ir
end
section
set_option Elab.async false
set_option linter.all false
set_option maxRecDepth 100000
namespace Ir
open PySem PySem.Spec PyProof.Rows L2

/-! ### methods of lists and texts, chains, fields -/
def isTy (ty : String) (s : Sto) (d : D) : Bool := match look s d with
  | .lst _ => ty == "list"
  | .str _ => ty == "str"
  | _ => false
theorem isTy_ok {c : Rc} {w : Wd} {s : Sto} {d : D} {v : V} {ty : String} (hs : Rs c w s) (hd : rv c w d v) (h : isTy ty s d = true) : tyV c.K ty v w.H := by
  unfold isTy at h
  split at h
  · obtain ⟨a, vs, rfl, ha, ra⟩ := look_lst hs hd (by assumption)
    exact .inl ⟨eq_of_beq h, vs, ha⟩
  · rename_i hl
    have e := look_flat hs hd hl fun _ h => h
    subst e
    simp only [rv] at hd
    subst hd
    exact eq_of_beq h
  · cases h
def mMeth (T : Tab) (ty : String) (o : On) (fa : Fe) (fs : Fs) : Fe := fun env s => (fa env s).bind fun d s => if isTy ty s d = true then (fs env s).bind fun ds s => ofPo (apn T o s (d :: ds)) else .bad
/-- the field f -/
def fldOf (s : Sto) (d : D) (T : Nat → Str → Bool) (f : Str) : Option D := match look s d with
  | .ins k ks ds => if T k f then (ks.zip ds).lookup f else none
  | _ => none
def mFld (T : Nat → Str → Bool) (f : Str) (fa : Fe) : Fe := fun env s => (fa env s).bind fun d s => match fldOf s d T f with
  | some x => .ok x s
  | none => .bad
theorem zip_lookup {c : Rc} {w : Wd} {f : Str} : ∀ {ks : List Str} {ds : List D} {vs : List V} {d : D}, rvs c w ds vs → (ks.zip ds).lookup f = some d → ∃ v, (ks.zip vs).lookup f = some v ∧ rv c w d v
  | [], ds, vs, d, r, h => by simp at h
  | k :: ks, [], vs, d, r, h => by simp at h
  | k :: ks, x :: ds, vs, d, r, h => by
    simp only [rvs] at r
    obtain ⟨v, r', rfl, h1, h2⟩ := r
    simp only [List.zip_cons_cons, List.lookup_cons] at h ⊢
    cases hb : f == k with
    | true =>
      rw [hb] at h
      cases h
      exact ⟨v, by simp, h1⟩
    | false =>
      rw [hb] at h
      exact zip_lookup h2 h
/-- the facts of fields: no class attribute of that name -/
def Ff (c : Rc) (T : Nat → Str → Bool) : Prop := ∀ k f, T k f = true → Cls c.K (c.cl k) ∧ NoAttr c.K (c.cl k) f
/-! ### an own def -/
/-- what a def of the meaning F promises -/
def spI (c : Rc) (np : Nat) (F : List D → Sto → R D) : Sp := fun vs H Q E => ∃ (w : Wd) (ds : List D) (s : Sto), w.H = H ∧ Rs c w s ∧ rvs c w ds vs ∧ ds.length = np ∧ post c (fun cls d _ H => E cls d H) [] w (F ds s) Q
theorem post.wish {c : Rc} {W W' : WX} {σ σ' : L2.St} {w : Wd} {r : R D} {Q : VK} (h : post c W σ w r Q) (k : ∀ cls d H, W cls d σ H → W' cls d σ' H) : post c W' σ' w r Q := by
  cases r with
  | ok d s => exact h
  | ex k' ds s => exact fun w' dx e r x => k _ _ _ (h w' dx e r x)
  | bad => exact h
def mCall (np : Nat) (F : List D → Sto → R D) (fs : Fs) : Fe := fun env s => (fs env s).bind fun ds s => if ds.length = np then F ds s else .bad
section
variable {X : Cx} {c : Rc} {T : Tab} {W : WX} {a b e o : Expr} {es : List Expr} {fa fb fc : Fe} {fs : Fs} {ft fu : Ft} {pos : Pos} {cl : Nat → Addr} {xn : Xn}
theorem x_bm {op : On} {name : Str} {apos cpos : Pos} {ty id : String} (hk : c.K = X.K) (pa : PlainAttrs ty) (slot : Slot ty name id) (hty : typeOf (.builtin id) = pure (.type "method_descriptor")) (hm : MtR X id (fun x xs H Q => rn c T op (x :: xs) H Q)) (ho : PE X o (rd c W fa)) (ha : PA X (e :: es) (rda c W fs))
    (hbase : attributeBase o name X.env (eval o X.env) = eval o X.env)
    (hfew : ((backTo cpos (starEach (e :: es) X.env)).all (fun x => !x.1) && (backToKw cpos (keywordEach [] X.env)).all (fun x => x.1.isSome)
      && decide ((e :: es).length + ([] : List Keyword).length + (if ([] : List Keyword).isEmpty then 0 else 1) < 30)) = true)
    (hline : (apos.endLine == cpos.line) = true) (hs : starEach (e :: es) X.env = (false, eval e X.env) :: starEach es X.env) (hplain : (backTo cpos (starEach es X.env)).any (·.1) = false) :
    PE X (.Call (.Attribute o name apos) (e :: es) [] cpos) (rd c W (mMeth T ty op fa fs)) := (pe_bm pa slot hty hm ho ha hbase hfew hline hs hplain).imp fun σ H Q ⟨w, env, s, hw, hs, he, hp⟩ => by
  subst hw
  refine ⟨w, env, s, rfl, hs, he, (post_bind hp).mono fun x H1 ⟨w1, d, s1, e1, x1, r1, q1, p1⟩ => ?_⟩
  subst e1
  split at p1
  · refine ⟨hk ▸ isTy_ok r1 q1 (by assumption), w1, env, s1, rfl, r1, he.mono x1, (posts_bind p1).mono fun vs H2 ⟨w2, ds, s2, e2, x2, r2, q2, p2⟩ => ?_⟩
    exact ⟨w2, s2, d :: ds, e2, r2, .cons (rv.mono x2 _ _ q1) q2, post_of p2⟩
  · exact p1.elim
theorem x_bm0 {op : On} {name : Str} {apos cpos : Pos} {ty id : String} (hk : c.K = X.K) (pa : PlainAttrs ty) (slot : Slot ty name id) (hty : typeOf (.builtin id) = pure (.type "method_descriptor")) (hm : MtR X id (fun x xs H Q => rn c T op (x :: xs) H Q)) (ho : PE X o (rd c W fa))
    (hbase : attributeBase o name X.env (eval o X.env) = eval o X.env) (hline : (apos.endLine == cpos.line) = true) :
    PE X (.Call (.Attribute o name apos) [] [] cpos) (rd c W (mMeth T ty op fa sNil)) := (pe_bm0 pa slot hty hm ho hbase hline).imp fun σ H Q ⟨w, env, s, hw, hs, he, hp⟩ => by
  subst hw
  refine ⟨w, env, s, rfl, hs, he, (post_bind hp).mono fun x H1 ⟨w1, d, s1, e1, x1, r1, q1, p1⟩ => ?_⟩
  subst e1
  split at p1
  · refine ⟨hk ▸ isTy_ok r1 q1 (by assumption), ?_⟩
    exact ⟨w1, s1, [d], rfl, r1, .cons q1 .nil, post_of p1⟩
  · exact p1.elim
theorem chain_core {o o' : O2} {σ : L2.St} {H : Hp} {Q : VK} (h : rd c W (mChain o o' fa fb fc) σ H Q) : tChain (r2 c o) (r2 c o') (rd c W fa) (rd c W fb) (rd c W fc) σ H Q := by
  obtain ⟨w, env, s, hw, hs, he, hp⟩ := h
  subst hw
  refine ⟨w, env, s, rfl, hs, he, (post_bind hp).mono fun x H1 ⟨w1, d, s1, e1, x1, r1, q1, p1⟩ => ?_⟩
  subst e1
  refine ⟨w1, env, s1, rfl, r1, he.mono x1, (post_bind p1).mono fun y H2 ⟨w2, d2, s2, e2, x2, r2, q2, p2⟩ => ?_⟩
  subst e2
  refine ⟨w2, s2, d, d2, rfl, r2, rv.mono x2 _ _ q1, q2, ?_⟩
  have p3 := post_bind p2
  cases hq : ap2 o s2 d d2 with
  | none => rw [hq] at p3; exact p3.elim
  | some z =>
    obtain ⟨z, s3⟩ := z
    rw [hq] at p3
    refine fun w3 v e3 r3 q3 => ?_
    obtain ⟨w4, z4, s4, e4, x4, r4, q4, p4⟩ := p3 w3 v e3 r3 q3
    cases z4 <;> try exact p4.elim
    rename_i bz
    simp only [rv] at q4
    refine ⟨bz, q4, ?_⟩
    cases bz with
    | false => exact e4 ▸ p4 w4 _ (.refl w4) r4 rv_bl
    | true =>
      have p5 : post c W σ w4 ((fc env s4).bind fun u s => ofPo (ap2 o' s d2 u)) Q := p4
      have x24 : Ext w2 w4 := x4
      rw [← e4]
      refine ⟨w4, env, s4, rfl, r4, (he.mono x1).mono (x2.trans x24), (post_bind p5).mono fun u H5 ⟨w5, d5, s5, e5, x5, r5, q5, p6⟩ => ?_⟩
      exact ⟨w5, s5, d2, d5, e5, r5, rv.mono (x24.trans x5) _ _ q2, q5, post_of p6⟩
theorem x_chain {op op' : CmpOp} {o o' : O2} (ho : OpR X (compareOp op) (r2 c o)) (ho' : OpR X (compareOp op') (r2 c o')) (ha : PE X a (rd c W fa)) (hb : PE X b (rd c W fb)) (hc : PE X e (rd c W fc)) 
    (k : PE X a (rd c W fa) → PE X b (rd c W fb) → PE X e (rd c W fc) → PE X (.Compare a [op, op'] [b, e] pos) (tChain (r2 c o) (r2 c o') (rd c W fa) (rd c W fb) (rd c W fc))) :
    PE X (.Compare a [op, op'] [b, e] pos) (rd c W (mChain o o' fa fb fc)) := (k ha hb hc).imp fun σ H Q h => chain_core h
theorem x_fld {F : Nat → Str → Bool} {f : Str} (hk : c.K = X.K) (hF : Ff c F) (ha : PE X o (rd c W fa)) (hb : attributeBase o f X.env (eval o X.env) = eval o X.env) : PE X (.Attribute o f pos) (rd c W (mFld F f fa)) := (pe_fld ha hb).imp fun σ H Q ⟨w, env, s, hw, hs, he, hp⟩ => by
  subst hw
  refine ⟨w, env, s, rfl, hs, he, (post_bind hp).mono fun x H1 ⟨w1, d, s1, e1, x1, r1, q1, p1⟩ => ?_⟩
  subst e1
  cases hq : fldOf s1 d F f with
  | none => rw [hq] at p1; exact p1.elim
  | some z =>
    rw [hq] at p1
    unfold fldOf at hq
    split at hq
    · rename_i k ks ds hl
      obtain ⟨a, dx, vs, rfl, h1, h2, h3⟩ := ins_view r1 q1 hl
      split at hq
      · rename_i ht
        obtain ⟨z1, z2⟩ := hF _ _ ht
        obtain ⟨v, h4, h5⟩ := zip_lookup h3 hq
        exact ⟨a, _, dx, _, v, rfl, h1, hk ▸ z1, hk ▸ z2, h4, p1 w1 v (.refl w1) r1 h5⟩
      · cases hq
    · cases hq
/-! calls of own defs -/
theorem x_call {F : List D → Sto → R D} {k np : Nat} {f : Addr} {fd : FuncData} {ps : List Str} {x : Str} {p : Pos} (tk : Takes X W) (G : FnOk X.prog X.w X.K X.mg X.base (L2.CX X.prog X.w) k f fd ps (spI c np F)) (hr : Room k X.A) (hg : Gl X x) (hm : X.mg x = some (.ref f)) (hk : PySem.W.keepIn X.K (.ref f) = true) (hb : Binds X.K fd ps [])
    (ha : PA X (e :: es) (rda c W fs)) (hdb : (x == ("__debug__" : Str)) = false) (he : starEach (e :: es) X.env = (false, eval e X.env) :: starEach es X.env) (hpl : (backTo pos (starEach es X.env)).any (·.1) = false) :
    PE X (.Call (.Name x p) (e :: es) [] pos) (rd c W (mCall np F fs)) := (pe_callSD (E := fun σ cls d H => W cls d σ H) (dvs := []) G hr hg hm hk hb .nil (fun σ => passAt tk σ) ha hdb he hpl).imp fun σ H Q ⟨w, env, s, hw, hs, he, hp⟩ => by
  subst hw
  refine ⟨w, env, s, rfl, hs, he, (posts_bind hp).mono fun vs H1 ⟨w1, ds, s1, e1, x1, r1, q1, p1⟩ => ?_⟩
  split at p1
  · exact ⟨w1, ds, s1, e1, r1, by rw [List.append_nil]; exact q1, by assumption, p1.wish fun _ _ _ h => h⟩
  · exact p1.elim
theorem x_call0 {F : List D → Sto → R D} {k : Nat} {f : Addr} {fd : FuncData} {ps : List Str} {x : Str} {p : Pos} (tk : Takes X W) (G : FnOk X.prog X.w X.K X.mg X.base (L2.CX X.prog X.w) k f fd ps (spI c 0 F)) (hr : Room k X.A) (hg : Gl X x) (hm : X.mg x = some (.ref f)) (hk : PySem.W.keepIn X.K (.ref f) = true) (hb : Binds X.K fd ps [])
    (hdb : (x == ("__debug__" : Str)) = false) : PE X (.Call (.Name x p) [] [] pos) (rd c W (mCall 0 F sNil)) := by
  refine ⟨fun pins s σ H Q I h => ?_⟩
  refine wpAny_Call_Name_kw (ld_glob I hg hm ?_ hdb)
  refine PySem.W.callWith_K0 I.kIn hk (run_fnSD (us := []) (vs := []) (dvs := []) (E := fun σ cls d H => W cls d σ H) G hr hb .nil (passAt tk σ) I .nil ?_)
  obtain ⟨w, env, s, hw, hs, he, hp⟩ := h
  exact ⟨w, [], s, hw, hs, .nil, rfl, (show post c W σ w (F [] s) Q from hp).wish fun _ _ _ h => h⟩
theorem x_own {F : List D → Sto → R D} {k np : Nat} {C f : Addr} {fd : FuncData} {ps : List Str} {m : Str} {apos : Pos} {kc : Nat} {pl : Sem Bool} (hk : c.K = X.K) (hC : c.cl kc = C) (tk : Takes X W) (hc : Cls X.K C) (hm : Meth X.K C m f) (G : FnOk X.prog X.w X.K X.mg X.base (L2.CX X.prog X.w) k f fd ps (spI c np F)) (hr : Room k X.A) (hb : Binds X.K fd ps [])
    (ho : PE X o (rd c W fa)) (ha : PA X (e :: es) (rda c W fs)) (hst : starEach (e :: es) X.env = (false, eval e X.env) :: starEach es X.env) (hpl : (backTo pos (starEach es X.env)).any (·.1) = false)
    (ht : eval (.Call (.Attribute o m apos) (e :: es) [] pos) X.env = (do
      let ov ← eval o X.env
      standAt apos.atName
      let (f, first) ← holding [ov] (getMethod ov m pl)
      callWith pos f first (backTo pos (starEach (e :: es) X.env)) (backToKw pos (keywordEach [] X.env)))) :
    PE X (.Call (.Attribute o m apos) (e :: es) [] pos) (rd c W fun env s => (fa env s).bind fun d s => match look s d with
      | .ins k' ks _ => if k' = kc ∧ m ∉ ks then (fs env s).bind fun ds s => if ds.length + 1 = np then F (d :: ds) s else .bad else .bad
      | _ => .bad) := by
  refine ⟨fun pins s σ H Q I ⟨w, env, st, hw, hs, he, hp⟩ => ?_⟩
  subst hw
  refine PySem.W.methodCall_KW (pl := pl) (thn (ho.run pins s σ _ _ I ⟨w, env, st, rfl, hs, he, post_bind hp⟩) fun u s1 ⟨x, H1, I1, rx, w1, d, st1, e1, x1, r1, q1, p1⟩ => ?_) ht
  subst e1
  split at p1
  · rename_i k' ks ds hl
    obtain ⟨a, dx, vs, rfl, h1, h2, h3⟩ := ins_view r1 q1 hl
    split at p1
    · rename_i hkk
      obtain ⟨hkk, hm'⟩ := hkk
      subst hkk
      have hu : u = Value.ref a := rx
      subst hu
      have hl' : (ks.zip vs).lookup m = none := by
        rw [List.lookup_eq_none_iff]
        intro p hp' 
        have := (List.of_mem_zip (a := p.1) (b := p.2) hp').1
        rw [bne_iff_ne]
        intro q; exact hm' (q ▸ this)
      refine getmeth_ok I1 (hC ▸ h1) hc hm hl' ?_
      refine PySem.W.callWith_K (first := [.ref a]) (h₀ := X.base) I.ok.mod.kin hm.kp (thn (ha.run pos pins s1 σ _ _ I1 ⟨w1, env, st1, rfl, r1, he.mono x1, posts_bind p1⟩) fun us s2 ⟨vs', H2, I2, r, w2, ds', st2, e2, x2, r2, q2, p2⟩ => ⟨I2.kIn, ?_⟩) hst hpl
      subst e2
      split at p2
      · refine run_fnSD (us := .ref a :: us) (vs := .ref a :: vs') (dvs := []) (E := fun σ cls d H => W cls d σ H) G hr hb .nil (passAt tk σ) I2 (.cons rfl r) ?_
        rw [List.append_nil]
        exact ⟨w2, d :: ds', st2, rfl, r2, .cons (rv.mono x2 _ _ q1) q2, by rw [List.length_cons]; assumption, p2.wish fun _ _ _ h => h⟩
      · exact p2.elim
    · exact p1.elim
  · exact p1.elim
end
end Ir
end
section
set_option Elab.async false
set_option linter.all false
set_option maxRecDepth 100000
namespace Ir
open PySem PySem.Spec PyProof.Rows L2

/-- how a statement ends -/
inductive SR where
  | nx (env : Ev) (s : Sto) | rt (d : D) (s : Sto) | bk (env : Ev) (s : Sto) | ct (env : Ev) (s : Sto) | ex (k : Nat) (ds : List D) (env : Ev) (s : Sto) | bad
def postS (c : Rc) (W : WX) (w : Wd) (r : SR) (D : Ends) : Prop := match r with
  | .nx env s => ∀ (w' : Wd) (σ : L2.St), Ext w w' → Rs c w' s → re c w' env σ → D.nx σ w'.H
  | .rt d s => ∀ (w' : Wd) (v : V), Ext w w' → Rs c w' s → rv c w' d v → D.rt v w'.H
  | .bk env s => ∀ (w' : Wd) (σ : L2.St), Ext w w' → Rs c w' s → re c w' env σ → D.bk σ w'.H
  | .ct env s => ∀ (w' : Wd) (σ : L2.St), Ext w w' → Rs c w' s → re c w' env σ → D.ct σ w'.H
  | .ex k ds env s => ∀ (w' : Wd) (dx : Addr) (σ : L2.St), Ext w w' → Rs c w' s → re c w' env σ → xr c w' k ds dx → W (.ref (c.cl k)) (some dx) σ w'.H
  | .bad => False
theorem postS.ext {c : Rc} {W : WX} {w w' : Wd} {r : SR} {D : Ends} (h : postS c W w r D) (e : Ext w w') : postS c W w' r D := by
  cases r with
  | nx env s => exact fun w2 σ e2 => h w2 σ (e.trans e2)
  | rt d s => exact fun w2 v e2 => h w2 v (e.trans e2)
  | bk env s => exact fun w2 σ e2 => h w2 σ (e.trans e2)
  | ct env s => exact fun w2 σ e2 => h w2 σ (e.trans e2)
  | ex k ds env s => exact fun w2 dx σ e2 => h w2 dx σ (e.trans e2)
  | bad => exact h
abbrev Fst := Ev → Sto → SR
def rds (c : Rc) (W : WX) (f : Fst) : TS := fun D σ H => ∃ (w : Wd) (env : Ev) (s : Sto), w.H = H ∧ Rs c w s ∧ re c w env σ ∧ postS c W w (f env s) D
/-- an expression's value for what follows -/
def R.st {α : Type} (r : R α) (env : Ev) (f : α → Sto → SR) : SR := match r with
  | .ok a s => f a s
  | .ex k ds s => .ex k ds env s
  | .bad => .bad
theorem st_bind {c : Rc} {W : WX} {σ : L2.St} {w : Wd} {env : Ev} {f : R D} {g : D → Sto → SR} {E : Ends} (he : re c w env σ) (h : postS c W w (f.st env g) E) :
    post c W σ w f fun v H1 => ∃ (w' : Wd) (d : D) (s' : Sto), w'.H = H1 ∧ Ext w w' ∧ Rs c w' s' ∧ rv c w' d v ∧ postS c W w' (g d s') E := by
  cases f with
  | ok d s => exact fun w' v e r q => ⟨w', d, s, rfl, e, r, q, postS.ext (r := g d s) h e⟩
  | ex k ds s => exact fun w' dx e r x => h w' dx σ e r (he.mono e) x
  | bad => exact h
theorem st_binds {c : Rc} {W : WX} {σ : L2.St} {w : Wd} {env : Ev} {f : R (List D)} {g : List D → Sto → SR} {E : Ends} (he : re c w env σ) (h : postS c W w (f.st env g) E) :
    posts c W σ w f fun vs H1 => ∃ (w' : Wd) (ds : List D) (s' : Sto), w'.H = H1 ∧ Ext w w' ∧ Rs c w' s' ∧ rvs c w' ds vs ∧ postS c W w' (g ds s') E := by
  cases f with
  | ok d s => exact fun w' v e r q => ⟨w', d, s, rfl, e, r, q, postS.ext (r := g d s) h e⟩
  | ex k ds s => exact fun w' dx e r x => h w' dx σ e r (he.mono e) x
  | bad => exact h
theorem st_bindt {c : Rc} {W : WX} {σ : L2.St} {w : Wd} {env : Ev} {f : R Bool} {g : Bool → Sto → SR} {E : Ends} (he : re c w env σ) (h : postS c W w (f.st env g) E) :
    postt c W σ w f fun b H1 => ∃ (w' : Wd) (s' : Sto), w'.H = H1 ∧ Ext w w' ∧ Rs c w' s' ∧ postS c W w' (g b s') E := by
  cases f with
  | ok d s => exact fun w' e r => ⟨w', s, rfl, e, r, postS.ext (r := g d s) h e⟩
  | ex k ds s => exact fun w' dx e r x => h w' dx σ e r (he.mono e) x
  | bad => exact h
def SR.then (r : SR) (f : Ev → Sto → SR) : SR := match r with
  | .nx env s => f env s
  | r => r
theorem then_post {c : Rc} {W : WX} {w : Wd} {r : SR} {f : Fst} {E : Ends} (h : postS c W w (r.then f) E) : postS c W w r { E with nx := rds c W f E } := by
  cases r with
  | nx env s => exact fun w' σ e r q => ⟨w', env, s, rfl, r, q, postS.ext (r := f env s) h e⟩
  | rt d s => exact h
  | bk env s => exact h
  | ct env s => exact h
  | ex k ds env s => exact h
  | bad => exact h
def sSeq (f g : Fst) : Fst := fun env s => (f env s).then g
def sNext : Fst := fun env s => .nx env s
def sExpr (f : Fe) : Fst := fun env s => (f env s).st env fun _ s => .nx env s
def sRet (f : Fe) : Fst := fun env s => (f env s).st env fun d s => .rt d s
def sRetN : Fst := fun _ s => .rt .non s
def sIf (t : Ft) (f g : Fst) : Fst := fun env s => (t env s).st env fun b s => if b = true then f env s else g env s
def sBrk : Fst := fun env s => .bk env s
def sCnt : Fst := fun env s => .ct env s
/-- a target: how a datum is stored -/
abbrev Ftg := D → Ev → Sto → SR
def postG (c : Rc) (w : Wd) (r : SR) (Q : L2.St → Hp → Prop) : Prop := match r with
  | .nx env s => ∀ (w' : Wd) (σ : L2.St), Ext w w' → Rs c w' s → re c w' env σ → Q σ w'.H
  | _ => False
def rdg (c : Rc) (f : Ftg) : TG := fun v σ H Q => ∃ (w : Wd) (env : Ev) (s : Sto) (d : D), w.H = H ∧ Rs c w s ∧ re c w env σ ∧ rv c w d v ∧ postG c w (f d env s) Q
def rdgs (c : Rc) (f : List D → Ev → Sto → SR) : TGs := fun vs σ H Q => ∃ (w : Wd) (env : Ev) (s : Sto) (ds : List D), w.H = H ∧ Rs c w s ∧ re c w env σ ∧ rvs c w ds vs ∧ postG c w (f ds env s) Q
def tgName (i : Nat) : Ftg := fun d env s => .nx (env.set i (some d)) s
def tgNil : List D → Ev → Sto → SR := fun ds env s => match ds with
  | [] => .nx env s
  | _ => .bad
def tgCons (f : Ftg) (g : List D → Ev → Sto → SR) : List D → Ev → Sto → SR := fun ds env s => match ds with
  | d :: ds => match f d env s with
    | .nx env s => g ds env s
    | _ => .bad
  | [] => .bad
def tgTup (n : Nat) (g : List D → Ev → Sto → SR) : Ftg := fun d env s => match d with
  | .tup ds => if ds.length = n then g ds env s else .bad
  | _ => .bad
section
variable {X : Cx} {c : Rc} {T : Tab} {W : WX} {a b e o : Expr} {es : List Expr} {fa fb fc : Fe} {fs : Fs} {ft fu : Ft} {pos : Pos} {cl : Nat → Addr} {xn : Xn} {f g : Fst} {st : Stmt} {rest sa sb : List Stmt} {tg : Ftg}
theorem G_G {w : Wd} {r : SR} {E : Ends} (h : postS c W w r E) (hn : ∃ env s, r = .nx env s) : postG c w r E.nx := by
  obtain ⟨env, s, rfl⟩ := hn
  exact h
theorem s_nil : PSs X [] (rds c W sNext) := pss_nil.imp fun E σ H ⟨w, env, s, hw, hs, he, hp⟩ => hw ▸ hp w σ (.refl w) hs he
theorem s_cons (h1 : PS X st (rds c W f)) (h2 : PSs X rest (rds c W g)) : PSs X (st :: rest) (rds c W (sSeq f g)) := (pss_cons h1 h2).imp fun E σ H ⟨w, env, s, hw, hs, he, hp⟩ => ⟨w, env, s, hw, hs, he, then_post hp⟩
theorem s_one (h1 : PS X st (rds c W f)) : PSs X [st] (rds c W f) := pss_one h1
theorem s_pass : PS X (.Pass pos) (rds c W sNext) := ps_pass.imp fun E σ H ⟨w, env, s, hw, hs, he, hp⟩ => hw ▸ hp w σ (.refl w) hs he
theorem s_brk : PS X (.Break pos) (rds c W sBrk) := ps_break.imp fun E σ H ⟨w, env, s, hw, hs, he, hp⟩ => hw ▸ hp w σ (.refl w) hs he
theorem s_cnt : PS X (.Continue pos) (rds c W sCnt) := ps_continue.imp fun E σ H ⟨w, env, s, hw, hs, he, hp⟩ => hw ▸ hp w σ (.refl w) hs he
theorem s_doc {x : Str} {j : Nat} {pos' : Pos} : PS X (.Expr (.Constant (.str x) j pos) pos') (rds c W sNext) := ps_doc.imp fun E σ H ⟨w, env, s, hw, hs, he, hp⟩ => hw ▸ hp w σ (.refl w) hs he
theorem s_expr (ha : PE X e (rd c W fa)) (hs : swapsWith e none pos.line X.env = pure false) : PS X (.Expr e pos) (rds c W (sExpr fa)) := (ps_expr ha hs).imp fun E σ H ⟨w, env, s, hw, hs, he, hp⟩ => by
  subst hw
  exact ⟨w, env, s, rfl, hs, he, (st_bind he hp).mono fun v H1 ⟨w1, d, s1, e1, x1, r1, q1, p1⟩ => e1 ▸ p1 w1 σ (.refl w1) r1 (he.mono x1)⟩
theorem s_ret (ha : PE X e (rd c W fa)) : PS X (.Return (some e) pos) (rds c W (sRet fa)) := (ps_ret ha).imp fun E σ H ⟨w, env, s, hw, hs, he, hp⟩ => by
  subst hw
  exact ⟨w, env, s, rfl, hs, he, (st_bind he hp).mono fun v H1 ⟨w1, d, s1, e1, x1, r1, q1, p1⟩ => e1 ▸ p1 w1 v (.refl w1) r1 q1⟩
theorem s_retN : PS X (.Return none pos) (rds c W sRetN) := ps_retN.imp fun E σ H ⟨w, env, s, hw, hs, he, hp⟩ => hw ▸ hp w .non (.refl w) hs rv_nonD
theorem s_if (ht : PT X e (rdt c W ft)) (ha : PSs X sa (rds c W f)) (hb : PSs X sb (rds c W g)) : PS X (.If e sa sb pos) (rds c W (sIf ft f g)) := (ps_if ht ha hb).imp fun E σ H ⟨w, env, s, hw, hs, he, hp⟩ => by
  subst hw
  refine ⟨w, env, s, rfl, hs, he, (st_bindt he hp).mono fun b H1 ⟨w1, s1, e1, x1, r1, p1⟩ => ?_⟩
  subst e1
  split
  · rename_i h; rw [if_pos h] at p1; exact ⟨w1, env, s1, rfl, r1, he.mono x1, p1⟩
  · rename_i h; rw [if_neg h] at p1; exact ⟨w1, env, s1, rfl, r1, he.mono x1, p1⟩
/-! targets -/
theorem _root_.L2.PG.imp {t t' : TG} (h : PG X e t) (k : ∀ v σ H Q, t' v σ H Q → t v σ H Q) : PG X e t' := ⟨fun pins s σ H v u Q I r q => h.run pins s σ H v u Q I r (k v σ H Q q)⟩
theorem _root_.L2.PGs.imp {t t' : TGs} (h : PGs X es t) (k : ∀ v σ H Q, t' v σ H Q → t v σ H Q) : PGs X es t' := ⟨fun pins s σ H v u Q I r q => h.run pins s σ H v u Q I r (k v σ H Q q)⟩
theorem g_name {i : Nat} {x : Str} (hN : X.N.Nodup) (hi : X.N[i]? = some x) (hx : Loc X.env.scope x) (hf : X.fn x = true ∨ X.env.scope.names.lookup x = some .local) : PG X (.Name x pos) (rdg c (tgName i)) := (pg_name hN hi hx hf).imp fun v σ H Q ⟨w, env, s, d, hw, hs, he, hd, hp⟩ => by
  subst hw
  exact hp w _ (.refl w) hs (he.set hd i)
theorem g_nil : PGs X [] (rdgs c tgNil) := pgs_nil.imp fun vs σ H Q ⟨w, env, s, ds, hw, hs, he, hd, hp⟩ => by
  subst hw
  cases ds with
  | nil =>
    simp only [rvs] at hd
    exact ⟨hd, hp w σ (.refl w) hs he⟩
  | cons d ds => exact hp.elim
theorem g_cons {gs : List D → Ev → Sto → SR} (h1 : PG X e (rdg c tg)) (h2 : PGs X es (rdgs c gs)) (hs : (assignEach (e :: es) X.env).map (·.2) = assign e X.env :: (assignEach es X.env).map (·.2)) : PGs X (e :: es) (rdgs c (tgCons tg gs)) := (pgs_cons h1 h2 hs).imp fun vs σ H Q ⟨w, env, s, ds, hw, hs, he, hd, hp⟩ => by
  subst hw
  cases ds with
  | nil => exact hp.elim
  | cons d ds =>
    simp only [rvs] at hd
    obtain ⟨v, r, rfl, h1, h2⟩ := hd
    refine ⟨v, r, rfl, w, env, s, d, rfl, hs, he, h1, ?_⟩
    cases hq : tg d env s <;> simp only [tgCons, hq] at hp <;> try exact hp.elim
    rename_i env' s'
    intro w' σ' e r' q
    refine ⟨w', env', s', ds, rfl, r', q, h2.mono e, ?_⟩
    cases hg : gs ds env' s' <;> rw [hg] at hp <;> try exact hp.elim
    exact fun w2 σ2 e2 => hp w2 σ2 (e.trans e2)
theorem g_tup {gs : List D → Ev → Sto → SR} {k n : Nat} (hk : c.K = X.K) (hc : X.calm = true) (h : PGs X es (rdgs c gs)) (hn : (assignEach es X.env).length = n) (hst : (assignEach es X.env).findIdx? (·.1) = none) : PG X (.Tuple es k pos) (rdg c (tgTup n gs)) := (pg_tup hc h hn hst).imp fun v σ H Q ⟨w, env, s, d, hw, hs, he, hd, hp⟩ => by
  subst hw
  cases d <;> try exact hp.elim
  rename_i ds
  simp only [rv] at hd
  obtain ⟨a, vs, rfl, ha, ra⟩ := hd
  simp only [tgTup] at hp
  split at hp
  · exact ⟨a, vs, rfl, hk ▸ ha.sq, by rw [← ra.length]; assumption, w, env, s, ds, rfl, hs, he, ra, hp⟩
  · exact hp.elim
def sAsg (fa : Fe) (tg : Ftg) : Fst := fun env s => (fa env s).st env fun d s => match tg d env s with
  | .nx env s => .nx env s
  | _ => .bad
theorem asg_core {σ : L2.St} {H : Hp} {E : Ends} (h : rds c W (sAsg fa tg) E σ H) : tAsg (rd c W fa) (rdg c tg) E σ H := by
  obtain ⟨w, env, s, rfl, hs, he, hp⟩ := h
  refine ⟨w, env, s, rfl, hs, he, (st_bind he hp).mono fun v H1 ⟨w1, d, s1, e1, x1, r1, q1, p1⟩ => ?_⟩
  subst e1
  refine ⟨w1, env, s1, d, rfl, r1, he.mono x1, q1, ?_⟩
  cases hq : tg d env s1 <;> rw [hq] at p1 <;> first | exact p1.elim | exact p1
theorem s_asg {t : Expr} (ha : PE X e (rd c W fa)) (hg : PG X t (rdg c tg)) (hs : swapsWithSole [t] e pos.line X.env = pure false) (hw : swappedStores [t] e X.env = pure none) (h1 : (assignEach [t] X.env).map (·.2) = [assign t X.env]) :
    PS X (.Assign [t] e pos) (rds c W (sAsg fa tg)) := (ps_asg ha hg hs hw h1).imp fun E σ H h => asg_core h
theorem s_set {i : Nat} {x : Str} {pos' : Pos} (hN : X.N.Nodup) (hi : X.N[i]? = some x) (hx : Loc X.env.scope x) (ha : PE X e (rd c W fa)) (hs : swapsWith e (some (.Name x pos')) pos.line X.env = pure false) (hf : X.fn x = true ∨ X.env.scope.names.lookup x = some .local) :
    PS X (.Assign [.Name x pos'] e pos) (rds c W (sAsg fa (tgName i))) := (ps_set hN hi hx ha hs hf).imp fun E σ H h => by
  obtain ⟨w, env, s, rfl, hs, he, hp⟩ := h
  refine ⟨w, env, s, rfl, hs, he, (st_bind he hp).mono fun v H1 ⟨w1, d, s1, e1, x1, r1, q1, p1⟩ => ?_⟩
  subst e1
  exact p1 w1 _ (.refl w1) r1 ((he.mono x1).set q1 i)
/-- a, b = x, y -/
def sPar (i j : Nat) (fs : Fs) : Fst := fun env s => (fs env s).st env fun ds s => match ds with
  | [d, e] => .nx ((env.set i (some d)).set j (some e)) s
  | _ => .bad
theorem s_par {i j : Nat} {x y : Str} {ta : TA} {t : Stmt} (h : PS X t (tPar i j (rda c W fs))) : PS X t (rds c W (sPar i j fs)) := h.imp fun E σ H ⟨w, env, s, hw, hs, he, hp⟩ => by
  subst hw
  refine ⟨w, env, s, rfl, hs, he, (st_binds he hp).mono fun vs H1 ⟨w1, ds, s1, e1, x1, r1, q1, p1⟩ => ?_⟩
  subst e1
  split at p1
  · obtain ⟨v, u, rfl, h1, h2⟩ := rvs2 q1
    exact ⟨v, u, rfl, p1 w1 _ (.refl w1) r1 (((he.mono x1).set h1 i).set h2 j)⟩
  · exact p1.elim
/-- a, b, c = x, y, z -/
def sPar3 (i j l : Nat) (fs : Fs) : Fst := fun env s => (fs env s).st env fun ds s => match ds with
  | [d, e, g] => .nx (((env.set i (some d)).set j (some e)).set l (some g)) s
  | _ => .bad
theorem rvs3 {w : Wd} {d e g : D} {vs : List V} (h : rvs c w [d, e, g] vs) : ∃ v u z, vs = [v, u, z] ∧ rv c w d v ∧ rv c w e u ∧ rv c w g z := by
  simp only [rvs] at h
  obtain ⟨v, r, rfl, h, u, r2, rfl, h2, z, r3, rfl, h3, rfl⟩ := h
  exact ⟨v, u, z, rfl, h, h2, h3⟩
theorem s_par3 {i j l : Nat} {ta : TA} {t : Stmt} (h : PS X t (tPar3 i j l (rda c W fs))) : PS X t (rds c W (sPar3 i j l fs)) := h.imp fun E σ H ⟨w, env, s, hw, hs, he, hp⟩ => by
  subst hw
  refine ⟨w, env, s, rfl, hs, he, (st_binds he hp).mono fun vs H1 ⟨w1, ds, s1, e1, x1, r1, q1, p1⟩ => ?_⟩
  subst e1
  split at p1
  · obtain ⟨v, u, z, rfl, h1, h2, h3⟩ := rvs3 q1
    exact ⟨v, u, z, rfl, p1 w1 _ (.refl w1) r1 ((((he.mono x1).set h1 i).set h2 j).set h3 l)⟩
  · exact p1.elim
/-! stores into a list -/
def stL (s : Sto) (d i v : D) : Option Sto := match d, i with
  | .ref n, .int k => match s[n]? with
    | some (.lst ds) => (ixN ds.length k).map fun j => s.set n (.lst (ds.set j v))
    | _ => none
  | _, _ => none
def sSub (fo fi fv : Fe) : Fst := fun env s => (fv env s).st env fun v s => (fo env s).st env fun o s => (fi env s).st env fun i s => match stL s o i v with
  | some s => .nx env s
  | none => .bad
theorem stL_ok {w : Wd} {s s' : Sto} {d i v : D} {dv iv vv : V} {Q : Hp → Prop} (hs : Rs c w s) (h1 : rv c w d dv) (h2 : rv c w i iv) (h3 : rv c w v vv) (h : stL s d i v = some s') (hq : ∀ w', Ext w w' → Rs c w' s' → Q w'.H) : rSetL dv iv vv w.H Q := by
  unfold stL at h
  split at h
  · rename_i n k
    split at h
    · rename_i ds hds
      rw [Option.map_eq_some_iff] at h
      obtain ⟨j, h4, rfl⟩ := h
      simp only [rv] at h1 h2
      obtain ⟨hn, rfl⟩ := h1
      obtain ⟨vs, h5, h6⟩ := hs.obj n _ hds
      exact ⟨_, vs, k, j, rfl, h2, h5, by rw [← h6.length]; exact h4, hq _ (.write hs hn) (.write hs hn ⟨_, upd_same, (h6.set h3 j).mono (.write hs hn)⟩)⟩
    · cases h
  · cases h
theorem s_sub {p2 : Pos} (ho : PE X o (rd c W fa)) (hi : PE X b (rd c W fb)) (hv : PE X e (rd c W fc)) (hs : swapsWithSole [.Subscript o b p2] e pos.line X.env = pure false) (hw : swappedStores [.Subscript o b p2] e X.env = pure none) (h1 : (assignEach [.Subscript o b p2] X.env).map (·.2) = [assign (.Subscript o b p2) X.env])
    (ha : ∀ v, assign (.Subscript o b p2) X.env v = (do
      let ov ← holding [v] (eval o X.env)
      let iv ← holding [v, ov] (eval b X.env)
      standAt p2
      holding [v, ov, iv] (setItem ov iv v)
      release [v, ov, iv] [])) : PS X (.Assign [.Subscript o b p2] e pos) (rds c W (sSub fa fb fc)) := (ps_asg hv (pg_sub ho hi set_list ha) hs hw h1).imp fun E σ H ⟨w, env, s, hw, hs, he, hp⟩ => by
  subst hw
  refine ⟨w, env, s, rfl, hs, he, (st_bind he hp).mono fun v H1 ⟨w1, d1, s1, e1, x1, r1, q1, p1⟩ => ?_⟩
  subst e1
  refine ⟨w1, env, s1, rfl, r1, he.mono x1, (st_bind (he.mono x1) p1).mono fun ov H2 ⟨w2, d2, s2, e2, x2, r2, q2, p2⟩ => ?_⟩
  subst e2
  refine ⟨w2, env, s2, rfl, r2, (he.mono x1).mono x2, (st_bind ((he.mono x1).mono x2) p2).mono fun iv H3 ⟨w3, d3, s3, e3, x3, r3, q3, p3⟩ => ?_⟩
  subst e3
  cases hq : stL s3 d2 d3 d1 with
  | none => rw [hq] at p3; exact p3.elim
  | some s4 =>
    rw [hq] at p3
    exact stL_ok r3 (rv.mono x3 _ _ q2) q3 (rv.mono (x2.trans x3) _ _ q1) hq fun w4 x4 r4 => p3 w4 σ x4 r4 ((((he.mono x1).mono x2).mono x3).mono x4)
/-! stores into an instance -/
def putFld (f : Str) (v : D) : List Str → List D → List Str × List D
  | k :: ks, d :: ds => if k = f then (k :: ks, v :: ds) else let (a, b) := putFld f v ks ds; (k :: a, d :: b)
  | ks, ds => (ks ++ [f], ds ++ [v])
def stF (s : Sto) (d : D) (F : Nat → Str → Bool) (f : Str) (v : D) : Option Sto := match d with
  | .ref n => match s[n]? with
    | some (.ins k ks ds) => if F k f ∧ ks.length < 1000 then some (s.set n (.ins k (putFld f v ks ds).1 (putFld f v ks ds).2)) else none
    | _ => none
  | _ => none
def sFldS (F : Nat → Str → Bool) (f : Str) (fo fv : Fe) : Fst := fun env s => (fv env s).st env fun v s => (fo env s).st env fun o s => match stF s o F f v with
  | some s => .nx env s
  | none => .bad
theorem putFld_ok {w : Wd} {f : Str} {v : D} {vv : V} (hv : rv c w v vv) : ∀ {ks : List Str} {ds : List D} {vs : List V}, ks.length = ds.length → rvs c w ds vs →
    ∃ vs', putF f vv (ks.zip vs) = (putFld f v ks ds).1.zip vs' ∧ (putFld f v ks ds).1.length = (putFld f v ks ds).2.length ∧ rvs c w (putFld f v ks ds).2 vs'
  | [], [], vs, _, r => by
    simp only [rvs] at r; subst r
    exact ⟨[vv], rfl, rfl, .cons hv .nil⟩
  | k :: ks, d :: ds, vs, hl, r => by
    simp only [rvs] at r
    obtain ⟨u, r', rfl, h1, h2⟩ := r
    by_cases hk : k = f
    · subst hk
      refine ⟨vv :: r', ?_, ?_, ?_⟩
      · simp only [List.zip_cons_cons, putF, putFld, if_true]
      · simp only [putFld, if_true, List.length_cons] at hl ⊢; exact hl
      · simp only [putFld, if_true]; exact .cons hv h2
    · obtain ⟨vs', e1, e2, e3⟩ := putFld_ok (f := f) hv (by simpa using hl) h2
      refine ⟨u :: vs', ?_, ?_, ?_⟩
      · simp only [List.zip_cons_cons, putF, putFld, if_neg hk, e1]
      · simpa only [putFld, if_neg hk, List.length_cons, Nat.add_right_cancel_iff] using e2
      · simp only [putFld, if_neg hk]; exact .cons h1 e3
  | [], d :: ds, vs, hl, r => by simp at hl
  | k :: ks, [], vs, hl, r => by simp at hl
theorem s_fld {F : Nat → Str → Bool} {f : Str} {p2 : Pos} (hk : c.K = X.K) (hF : Ff c F) (ho : PE X o (rd c W fa)) (hv : PE X e (rd c W fb)) (hs : swapsWith e (some (.Attribute o f p2)) pos.line X.env = pure false) : PS X (.Assign [.Attribute o f p2] e pos) (rds c W (sFldS F f fa fb)) := (ps_fld ho hv hs).imp fun E σ H ⟨w, env, s, hw, hs, he, hp⟩ => by
  subst hw
  refine ⟨w, env, s, rfl, hs, he, (st_bind he hp).mono fun v H1 ⟨w1, d1, s1, e1, x1, r1, q1, p1⟩ => ?_⟩
  subst e1
  refine ⟨w1, env, s1, rfl, r1, he.mono x1, (st_bind (he.mono x1) p1).mono fun ov H2 ⟨w2, d2, s2, e2, x2, r2, q2, p2⟩ => ?_⟩
  subst e2
  cases hq : stF s2 d2 F f d1 with
  | none => rw [hq] at p2; exact p2.elim
  | some s3 =>
    rw [hq] at p2
    unfold stF at hq
    split at hq
    · rename_i n
      split at hq
      · rename_i k ks ds hn
        split at hq
        · rename_i hc
          cases hq
          simp only [rv] at q2
          obtain ⟨hn', rfl⟩ := q2
          obtain ⟨dx, vs, h1, h2, h3⟩ := r2.obj n _ hn
          obtain ⟨z1, z2⟩ := hF _ _ hc.1
          obtain ⟨vs', g1, g2, g3⟩ := putFld_ok (f := f) (rv.mono x2 _ _ q1) h2 h3
          refine ⟨_, _, dx, _, rfl, h1, hk ▸ z1, hk ▸ z2, ?_, ?_⟩
          · rw [List.length_zip]; have := hc.2; omega
          · rw [g1]
            exact p2 _ σ (.write r2 hn') (.write r2 hn' ⟨dx, vs', upd_same, g2, g3.mono (.write r2 hn')⟩) (((he.mono x1).mono x2).mono (.write r2 hn'))
        · cases hq
      · cases hq
    · cases hq
end
end Ir
end
section
set_option Elab.async false
set_option linter.all false
set_option maxRecDepth 100000
/-! enumerate of a tuple -/
namespace Ir
open PySem PySem.Spec PyProof.Rows L2
set_option maxHeartbeats 1000000 in
theorem enum_one {v : Value} {ob : Obj} {Hs : Heap → Prop} (B : Begins v ob Hs) :
    Meets (Builtin.«enumerate.__new__» ⟨[.type "enumerate", v], []⟩) (fun _ R z => Hs z.heap ∧
      R (.ok (.ret (.ref (z.heap.push ob).objs.size))) { z with heap := (z.heap.push ob).push { cls := .type "enumerate", data := .fields #[.none, .bool false, .ref z.heap.objs.size, rawInt 0, .none, .none] } }) :=
  .of_wp fun prog w A R z hz => by
    obtain ⟨hp, gl, dd, tk, oss⟩ := z
    obtain ⟨hz1, hz2⟩ := hz
    have hsub := sub_enumerate
    have it1 : ∀ {A' : Around} {E : Value → Shared → Prop} {Q : Value → Shared → Prop}, Q (.ref hp.objs.size) ⟨hp.push ob, gl, dd, tk, oss⟩ → wpAny (model prog w) A' (pyIter v) Q E ⟨hp, gl, dd, tk, oss⟩ :=
      fun q => B.iter prog w _ _ ⟨hp, gl, dd, tk, oss⟩ _ hz1 q
    wp_walk using it1
    refine wpAny_stack_any fun _ => wpAny_pure ?_
    split
    · rename_i cc _ _ _ _ _
      cases (cc == Value.type "enumerate") <;> (wp_walk using it1) <;> exact ⟨_, rfl, hz2⟩
    · wp_walk using it1
      exact ⟨_, rfl, hz2⟩
theorem call_enumT {prog : Program} {w : World} {A : Around} {E : Value → Shared → Prop} {z : Shared} {a : Addr} {xs : Array Value} {Q : Value → Shared → Prop} (ht : z.heap.IsTuple a xs)
    (k : ∀ h', IsEnum h' (z.heap.objs.size + 1) z.heap.objs.size 0 .none → h'.IsTupleIter z.heap.objs.size a 0 → h'.objs.size = z.heap.objs.size + 2 →
      (∀ b o, z.heap.get? b = some o → h'.get? b = some o) → Q (.ref (z.heap.objs.size + 1)) { z with heap := h' }) :
    wpAny (model prog w) A (call (.type "enumerate") [.ref a]) Q E z := by
  have B := begins_tuple a xs
  refine callType_new F.called_enumerate (by decide) (F.typeCall_enumerate_1 _) (F.newCall_enumerate_1 _) (fun ob => F.args_object_init_2 ob _) F.entry_enumerate_new (enum_one B) ⟨ht, ?_⟩
  have e1 : (z.heap.push { cls := .type "tuple_iterator", data := .fields #[.ref a, .int 0 0] }).objs.size = z.heap.objs.size + 1 := Heap.size_push ..
  show _ ∧ _
  rw [e1]
  have e2 := Heap.get?_push_size (z.heap.push { cls := .type "tuple_iterator", data := .fields #[.ref a, .int 0 0] }) (o := { cls := .type "enumerate", data := .fields #[.none, .bool false, .ref z.heap.objs.size, rawInt 0, .none, .none] }) rfl
  rw [e1] at e2
  exact ⟨⟨_, e2, rfl⟩, k _ e2 ⟨_, Heap.get?_push_of_some _ (Heap.get?_push_size _ rfl), rfl, rfl⟩ (by rw [Heap.size_push, e1]) fun b o x => Heap.get?_push_of_some _ (Heap.get?_push_of_some _ x)⟩
/-- the tuple at a, each item in a new pair -/
def IteT (K : PySem.W.Frag) (a : Addr) : It :=
  ⟨fun i H => ∃ (us : List V) (u : V), SqT K H a us ∧ us[i]? = some u, fun i H v H' => ∃ T u, v = .ref T ∧ H T = none ∧ H' = upd H T (.tup [.int (i : Nat), u]) ∧ ∀ us, SqT K H a us → us[i]? = some u, fun i H => ∃ us : List V, SqT K H a us ∧ us.length ≤ i⟩
theorem turn_enumT {Pr : Program} {w : World} {K : PySem.W.Frag} {elts : List Expr} {kk : Nat} {tpos : Pos} (a e it : Addr) :
    Turn Pr w K (.Tuple elts kk tpos) (IteT K a) [e, it] e (fun i h => (∃ old, IsEnum h e it ((i : Nat) : Int) old) ∧ h.IsTupleIter it a i ∧ e ≠ it) where
  mem := by simp
  obj := fun i h st b hb => by
    obtain ⟨⟨old, h1⟩, ⟨o, h2, h3, h4⟩, _⟩ := st
    have q : b = e ∨ b = it := by simpa using hb
    rcases q with rfl | rfl
    · exact ⟨_, h1, fun v q => nomatch q⟩
    · exact ⟨o, h2, fun v q => by rw [h4] at q; cases q⟩
  keep := fun i h h' st k => let ⟨⟨old, h1⟩, h2, h3⟩ := st; ⟨⟨old, k e (by simp) _ h1⟩, h2.at fun o q => k it (by simp) o q, h3⟩
  item := by
    intro X hP hw hK hc i pins s σ H E I hf st hg
    subst hP hw hK
    obtain ⟨⟨old, h1⟩, h2, h3⟩ := st
    obtain ⟨us, u, hq, hu⟩ := hg
    obtain ⟨its, rv, p, _⟩ := I.tuple hq
    obtain ⟨y, hy, ry⟩ := rv.get hu
    have lt1 : e < s.heap.objs.size := Heap.lt_size h1
    have lt2 : it < s.heap.objs.size := by obtain ⟨_, q, _⟩ := h2; exact Heap.lt_size q
    have p' : s.heap.IsTuple a its.toArray := p
    have nea : e ≠ a := fun q => by
      obtain ⟨o, ho, hcl, _⟩ := p'
      rw [← q, h1] at ho
      cases ho
      exact absurd (Value.type.inj hcl) (by decide)
    have nia : a ≠ it := fun q => by
      obtain ⟨o, ho, hcl, _⟩ := p'
      obtain ⟨o2, ho2, hcl2, _⟩ := h2
      rw [q, ho2] at ho
      cases ho
      rw [hcl] at hcl2
      exact absurd hcl2 (by decide)
    have hi : i < its.toArray.size := by
      have := (List.getElem?_eq_some_iff.mp hy).1
      simpa using this
    have D : Draws X.prog X.w X.A.in1 it [it, a] its.toArray.size (fun i v => its.toArray[i]? = some v) (fun i h => h.IsTupleIter it a i ∧ h.IsTuple a its.toArray) := Draws.tuple (show X.A.in1.handled = none from I.ok.hd hc) it a nia its.toArray
    refine wpAny_pyNext_enum_itemC D h1 ⟨h2, p'⟩ hi h3 (by simp [h3, nea]) fun x h' tk hx ho hst hT hsz hk => ?_
    have hxy : x = y := by
      have hy' : its.toArray[i]? = some y := by simpa using hy
      rw [hy'] at hx
      exact (Option.some.inj hx).symm
    subst hxy
    refine ⟨_, rfl, wpAny_letOwnedTupleGo_enum (s := { s with heap := h', toks := tk + 1 }) ho fun h'' he' sb => ?_⟩
    have hT2 : h''.get? s.heap.objs.size = some { cls := .type "tuple", data := .seq #[.int i tk, x] } := (sb.2 _ (Nat.ne_of_gt lt1)).trans hT
    have fresh : ObjOk X.prog X.w (upd H s.heap.objs.size (.tup [.int (i : Nat), u])) h'' s.heap.objs.size (.tup [.int (i : Nat), u]) :=
      ⟨by show 2 ≤ sizeLine; decide, [.int i tk, x], .cons ⟨_, rfl⟩ (.cons ry .nil), ⟨_, hT2, rfl, _, rfl⟩⟩
    have I1 : Inv X pins σ (upd H s.heap.objs.size (.tup [.int (i : Nat), u])) { s with heap := h'', toks := tk + 1 } :=
      I.turnedNew (t' := tk + 1) (ch := [e, it]) (fun b o hb q => (sb.2 b (fun z => hb (by simp [z]))).trans (hk b o (fun z => hb (by simp [z])) (fun z => hb (by simp [z])) q)) hf (Nat.le_refl _) fresh
    refine ⟨.ref s.heap.objs.size, _, I1, rfl, ⟨_, u, rfl, I.hok.fresh (Nat.le_refl _), rfl, fun ys hy2 => by rw [I.tuple_inj hy2 hq]; exact hu⟩, ⟨⟨x, ?_⟩, hst.1.at fun o q => (sb.2 it (Ne.symm h3)).trans q, h3⟩, fun b hb => ?_⟩
    · rw [show ((i + 1 : Nat) : Int) = (i : Int) + 1 by omega]
      exact he'
    · have lt : b < s.heap.objs.size := by
        have q : b = e ∨ b = it := by simpa using hb
        rcases q with rfl | rfl
        · exact lt1
        · exact lt2
      rw [upd_ne (Nat.ne_of_lt lt)]
      exact (hf b hb).1
  done := by
    intro X hP hw hK hc i pins s σ H E I hf st hg
    subst hP hw hK
    obtain ⟨⟨old, h1⟩, h2, h3⟩ := st
    obtain ⟨us, hq, hle⟩ := hg
    obtain ⟨its, rv, p, _⟩ := I.tuple hq
    have p' : s.heap.IsTuple a its.toArray := p
    have nia : a ≠ it := fun q => by
      obtain ⟨o, ho, hcl, _⟩ := p'
      obtain ⟨o2, ho2, hcl2, _⟩ := h2
      rw [q, ho2] at ho
      cases ho
      rw [hcl] at hcl2
      exact absurd hcl2 (by decide)
    have hl := rv.length
    have D : Draws X.prog X.w X.A.in1 it [it, a] i (fun _ _ => False) (fun j h => j = i ∧ h.IsTupleIter it a j ∧ h.IsTuple a its.toArray) := {
      live := fun _ _ st => let ⟨o, ho, _⟩ := st.2.1; ⟨o, ho⟩
      frame := fun _ _ _ st hk => ⟨st.1, st.2.1.at fun o e => hk it (by simp) o e, st.2.2.at fun o e => hk a (by simp) o e⟩
      item := fun j _ _ _ lt st _ => absurd st.1 (Nat.ne_of_lt lt)
      done := fun _ _ _ st q => wpAny_nextOf_tuple_end (show X.A.in1.handled = none from I.ok.hd hc) st.2.1 st.2.2 (by simp; omega) q }
    obtain ⟨f0, f1, f2, f3, f4, f5⟩ := hf it (by simp)
    exact wpAny_pyNext_enum_endD D h1 ⟨rfl, h2, p'⟩ fun h' eb => ⟨rfl, I.turned (t' := s.toks) (fun b o hb q => eb b o hb q) f0 f1 f3 f4 f5⟩
  self := fun A i s Q E st h => let ⟨⟨_, h1⟩, _⟩ := st; wpAny_pyIter_enum h1 h
/-- of a list or of a tuple -/
def iEnumA (K : PySem.W.Frag) (ta : TA) : TI := fun σ H R => ta σ H fun vs H1 => ∃ a us, vs = [.ref a] ∧ ((SqL K H1 a us ∧ R (Ite K a) H1) ∨ (SqT K H1 a us ∧ R (IteT K a) H1))
theorem pi_enumA {X : Cx} {e : Expr} {ta : TA} {p pos tpos : Pos} {elts : List Expr} {kk : Nat} (hg : Gl X "enumerate") (hm : X.mg "enumerate" = none) (ha : PA X [e] ta) (hs : starEach [e] X.env = [(false, eval e X.env)]) :
    PI X (.Tuple elts kk tpos) (.Call (.Name "enumerate" p) [e] [] pos) (iEnumA X.K ta) := by
  refine ⟨fun pins s σ H R I h => ?_⟩
  refine Call_ (ld_blt I hg hm boot_enumerate (PyProof.Rows.callWith_type1 (thn (ha.run pos pins s σ H _ I h) fun vs0 s1 ⟨vs, H1, I1, r1, q1⟩ => ?_) hs rfl))
  obtain ⟨a, us, ex, q1⟩ := q1
  subst ex
  cases r1 with
  | cons r rr =>
    cases rr
    cases r
    have fr : ∀ b ∈ [s1.heap.objs.size + 1, s1.heap.objs.size], FpOk X pins H1 b := fun b hb => by
      have q : b = s1.heap.objs.size + 1 ∨ b = s1.heap.objs.size := by simpa using hb
      have le : s1.heap.objs.size ≤ b := by rcases q with rfl | rfl <;> omega
      exact I1.fpOk le (I1.hok.fresh le)
    rcases q1 with ⟨hq, q⟩ | ⟨hq, q⟩
    · obtain ⟨its, rv, p', _⟩ := I1.list hq
      refine call_enumerate_list p'.isList fun h' he hit hsz hk => wpAny_pyIter_enum he ?_
      have I2 : Inv X pins σ H1 { s1 with heap := h' } := I1.kept (t' := s1.toks) hk
      exact ⟨s1.heap.objs.size + 1, [s1.heap.objs.size + 1, s1.heap.objs.size], _, _, H1, rfl, I2, turn_enum a (s1.heap.objs.size + 1) s1.heap.objs.size, ⟨⟨.none, he⟩, hit, Nat.succ_ne_self _⟩, fr, q⟩
    · obtain ⟨its, rv, p', _⟩ := I1.tuple hq
      refine call_enumT (show s1.heap.IsTuple a its.toArray from p') fun h' he hit hsz hk => wpAny_pyIter_enum he ?_
      have I2 : Inv X pins σ H1 { s1 with heap := h' } := I1.kept (t' := s1.toks) hk
      exact ⟨s1.heap.objs.size + 1, [s1.heap.objs.size + 1, s1.heap.objs.size], _, _, H1, rfl, I2, turn_enumT a (s1.heap.objs.size + 1) s1.heap.objs.size, ⟨⟨.none, he⟩, hit, Nat.succ_ne_self _⟩, fr, q⟩
end Ir
end
section
set_option Elab.async false
set_option linter.all false
set_option maxRecDepth 100000
namespace Ir
open PySem PySem.Spec PyProof.Rows L2

/-- what is walked -/
inductive Itb where
  | seq (d : D) | rng (lo c : Int) (n : Nat) | enum (d : D) | zip (d e : D)
def signs (x : Str) : List D := x.cps.toList.map fun ch => .str ⟨#[ch]⟩
def numb (k : Nat) : List D → List D
  | [] => []
  | d :: ds => .tup [.int k, d] :: numb (k + 1) ds
def Itb.items : Itb → Sto → Option (List D)
  | .seq (.str x), _ => some (signs x)
  | .seq d, s => seqOf s d
  | .rng lo c n, _ => some ((List.range n).map fun (i : Nat) => .int (lo + (i : Int) * c))
  | .enum d, s => (seqOf s d).map (numb 0)
  | .zip d e, s => (seqOf s d).bind fun ds => (seqOf s e).map fun es => (ds.zip es).map fun p => .tup [p.1, p.2]
/-- J walks what g tells, as the store stands -/
structure ItG (c : Rc) (J : It) (w0 : Wd) (g : Sto → Option (List D)) : Prop where
  go : ∀ (w : Wd) (s : Sto) (ds : List D) (i : Nat), Ext w0 w → Rs c w s → g s = some ds → i < ds.length → J.go i w.H
  stop : ∀ (w : Wd) (s : Sto) (ds : List D), Ext w0 w → Rs c w s → g s = some ds → J.stop ds.length w.H
  yld : ∀ (w : Wd) (s : Sto) (ds : List D) (i : Nat) (x : V) (H' : Hp), Ext w0 w → Rs c w s → g s = some ds → i < ds.length → J.yld i w.H x H' → ∃ (w' : Wd) (d : D), Ext w w' ∧ w'.H = H' ∧ Rs c w' s ∧ ds[i]? = some d ∧ rv c w' d x
theorem ItG.ext {c : Rc} {J : It} {w0 w1 : Wd} {g : Sto → Option (List D)} (h : ItG c J w0 g) (e : Ext w0 w1) : ItG c J w1 g :=
  ⟨fun w s ds i x => h.go w s ds i (e.trans x), fun w s ds x => h.stop w s ds (e.trans x), fun w s ds i x H' q => h.yld w s ds i x H' (e.trans q)⟩
abbrev Fi := Ev → Sto → R Itb
def posti (c : Rc) (W : WX) (σ : L2.St) (w : Wd) (r : R Itb) (Q : It → Hp → Prop) : Prop := match r with
  | .ok b s => ∀ (w' : Wd) (J : It), Ext w w' → Rs c w' s → ItG c J w' b.items → Q J w'.H
  | .ex k ds s => ∀ (w' : Wd) (dx : Addr), Ext w w' → Rs c w' s → xr c w' k ds dx → W (.ref (c.cl k)) (some dx) σ w'.H
  | .bad => False
def rdi (c : Rc) (W : WX) (f : Fi) : TI := fun σ H Q => ∃ (w : Wd) (env : Ev) (s : Sto), w.H = H ∧ Rs c w s ∧ re c w env σ ∧ posti c W σ w (f env s) Q
def iSeq (fa : Fe) : Fi := fun env s => (fa env s).bind fun d s => .ok (.seq d) s
def isSeq (s : Sto) (d : D) : Bool := match d with
  | .str _ => true
  | d => (seqOf s d).isSome
def iSeqC (fa : Fe) : Fi := fun env s => (fa env s).bind fun d s => if isSeq s d = true then .ok (.seq d) s else .bad
def rOk (i : Int) : Bool := decide (-(2 ^ 62) ≤ i) && decide (i < 2 ^ 62)
def iRng1' (fs : Fs) : Fi := fun env s => (fs env s).bind fun ds s => match ds with
  | [.int j] => if rOk j = true then .ok (.rng 0 1 j.toNat) s else .bad
  | _ => .bad
def iRng2' (fs : Fs) : Fi := fun env s => (fs env s).bind fun ds s => match ds with
  | [.int i, .int j] => if (rOk i && rOk j) = true then .ok (.rng i 1 (j - i).toNat) s else .bad
  | _ => .bad
/-- downwards by one; or by another small step upwards -/
def iRng3' (fs : Fs) : Fi := fun env s => (fs env s).bind fun ds s => match ds with
  | [.int i, .int j, .int k] => if (decide (k ≠ 0) && decide (k.natAbs < 1073741824) && Builtin.Range.small i j k && decide (0 ≤ Builtin.Range.rangeSize i j k)) = true then .ok (.rng i k (Builtin.Range.rangeSize i j k).toNat) s else .bad
  | _ => .bad
def isLst (s : Sto) (d : D) : Bool := match look s d with
  | .lst _ => true
  | .klst _ => true
  | _ => false
def isTup (s : Sto) (d : D) : Bool := match look s d with
  | .tup _ => true
  | _ => false
def iEnum' (fs : Fs) : Fi := fun env s => (fs env s).bind fun ds s => match ds with
  | [d] => if (isLst s d || isTup s d) = true then .ok (.enum d) s else .bad
  | _ => .bad
def iZip' (fs : Fs) : Fi := fun env s => (fs env s).bind fun ds s => match ds with
  | [d, e] => if ((isLst s d || isTup s d) && (isLst s e || isTup s e)) = true then .ok (.zip d e) s else .bad
  | _ => .bad
section
variable {X : Cx} {c : Rc} {T : Tab} {W : WX} {a b e o tg : Expr} {es : List Expr} {fa fb fc : Fe} {fs : Fs} {ft fu : Ft} {pos : Pos} {cl : Nat → Addr} {xn : Xn} {f g : Fst} {st : Stmt}
theorem _root_.L2.PI.imp {t t' : TI} (h : PI X tg e t) (k : ∀ σ H Q, t' σ H Q → t σ H Q) : PI X tg e t' := ⟨fun pins s σ H R I q => h.run pins s σ H R I (k σ H R q)⟩
theorem isLst_view {w : Wd} {s : Sto} {d : D} {v : V} (hs : Rs c w s) (h : rv c w d v) (l : isLst s d = true) : ∃ a ds vs, v = .ref a ∧ seqOf s d = some ds ∧ SqL c.K w.H a vs ∧ rvs c w ds vs := by
  unfold isLst at l
  split at l
  · rename_i hl
    obtain ⟨a, vs, h1, h2, h3⟩ := look_lst hs h hl
    exact ⟨a, _, vs, h1, by unfold seqOf; rw [hl], h2, h3⟩
  · rename_i hl
    obtain ⟨a, vs, h1, h2, h3⟩ := klst_view hs h hl
    exact ⟨a, _, vs, h1, by unfold seqOf; rw [hl], h2, h3⟩
  · cases l
theorem isTup_view {w : Wd} {s : Sto} {d : D} {v : V} (hs : Rs c w s) (h : rv c w d v) (l : isTup s d = true) : ∃ a ds vs, v = .ref a ∧ seqOf s d = some ds ∧ SqT c.K w.H a vs ∧ rvs c w ds vs := by
  unfold isTup at l
  split at l
  · rename_i hl
    obtain ⟨a, vs, h1, h2, h3⟩ := tup_view hs h hl
    exact ⟨a, _, vs, h1, by unfold seqOf; rw [hl], h2.sq, h3⟩
  · cases l
/-- lists by what the datum is -/
theorem datum_lst {w : Wd} {s : Sto} {d : D} {v : V} (hs : Rs c w s) (h : rv c w d v) (l : isLst s d = true) : ((∃ ds, d = .lst ds) ∨ (∃ ds, d = .klst ds)) ∨ ∃ n, d = .ref n := by
  unfold isLst at l
  cases d <;> simp only [look] at l <;> first
    | exact .inl (.inl ⟨_, rfl⟩)
    | exact .inl (.inr ⟨_, rfl⟩)
    | exact .inr ⟨_, rfl⟩
    | (simp at l)
theorem lst_any {w : Wd} {s : Sto} {d : D} {a : Addr} {ds : List D} (hd : ((∃ ds, d = .lst ds) ∨ (∃ ds, d = .klst ds)) ∨ ∃ n, d = .ref n) (h : rv c w d (.ref a)) (hs : Rs c w s) (q : seqOf s d = some ds) : ∃ vs, SqL c.K w.H a vs ∧ rvs c w ds vs := by
  have key : ∀ e, look s d = e → (∀ ds', e ≠ .tup ds') → ∃ vs, SqL c.K w.H a vs ∧ rvs c w ds vs := fun e he hn => by
    unfold seqOf at q
    rw [he] at q
    cases e <;> simp only [reduceCtorEq, Option.some.injEq] at q
    · exact (hn _ rfl).elim
    · subst q
      obtain ⟨a', vs, h1, h2, h3⟩ := look_lst hs h he
      cases h1; exact ⟨vs, h2, h3⟩
    · subst q
      obtain ⟨a', vs, h1, h2, h3⟩ := klst_view hs h he
      cases h1; exact ⟨vs, h2, h3⟩
  rcases hd with (⟨x, rfl⟩ | ⟨x, rfl⟩) | ⟨n, rfl⟩
  · exact key _ rfl fun _ z => by simp [look] at z
  · exact key _ rfl fun _ z => by simp [look] at z
  · refine key _ rfl fun ds' z => ?_
    obtain ⟨_, _, _, h2, _⟩ := tup_view hs h z
    simp only [rv] at h
    obtain ⟨x, hx, r⟩ := hs.at_ h.1
    simp only [look, hx, Option.getD_some] at z
    subst z
    exact r
theorem tup_any {w : Wd} {s : Sto} {d : D} {a : Addr} {ds ds0 : List D} (hd : d = .tup ds0) (h : rv c w d (.ref a)) (q : seqOf s d = some ds) : ∃ vs, SqT c.K w.H a vs ∧ rvs c w ds vs := by
  subst hd
  have q : some ds0 = some ds := q
  cases q
  simp only [rv] at h
  obtain ⟨a', vs, h1, h2, h3⟩ := h
  cases h1
  exact ⟨vs, h2.sq, h3⟩
theorem datum_tup {w : Wd} {s : Sto} {d : D} {v : V} (hs : Rs c w s) (h : rv c w d v) (l : isTup s d = true) : ∃ ds, d = .tup ds := by
  unfold isTup at l
  split at l
  · rename_i hl
    exact ⟨_, look_flat hs h hl fun _ h => h⟩
  · cases l
theorem get_of {ds : List D} {i : Nat} (h : i < ds.length) : ds[i]? = some ds[i] := by simp [h]
theorem ig_list {w0 : Wd} {d : D} {a : Addr} (hd : ((∃ ds, d = .lst ds) ∨ (∃ ds, d = .klst ds)) ∨ ∃ n, d = .ref n) (h : rv c w0 d (.ref a)) : ItG c (Itl c.K a) w0 (fun s => seqOf s d) where
  go := fun w s ds i e hs q hi => by
    obtain ⟨vs, h1, h2⟩ := lst_any hd (rv.mono e _ _ h) hs q
    obtain ⟨v, h3, _⟩ := h2.get i _ (get_of hi)
    exact ⟨vs, v, h1, h3⟩
  stop := fun w s ds e hs q => by
    obtain ⟨vs, h1, h2⟩ := lst_any hd (rv.mono e _ _ h) hs q
    exact ⟨vs, h1, Nat.le_of_eq h2.length.symm⟩
  yld := fun w s ds i x H' e hs q hi y => by
    obtain ⟨vs, h1, h2⟩ := lst_any hd (rv.mono e _ _ h) hs q
    obtain ⟨v, h3, h4⟩ := h2.get i _ (get_of hi)
    obtain ⟨e1, y⟩ := y
    have e2 := y vs h1
    rw [h3] at e2
    cases e2
    exact ⟨w, _, .refl w, e1.symm, hs, get_of hi, h4⟩
theorem ig_tup {w0 : Wd} {ds0 : List D} {a : Addr} (h : rv c w0 (.tup ds0) (.ref a)) : ItG c (Itt c.K a) w0 (fun s => seqOf s (.tup ds0)) where
  go := fun w s ds i e hs q hi => by
    obtain ⟨vs, h1, h2⟩ := tup_any rfl (rv.mono e _ _ h) q
    obtain ⟨v, h3, _⟩ := h2.get i _ (get_of hi)
    exact ⟨vs, v, h1, h3⟩
  stop := fun w s ds e hs q => by
    obtain ⟨vs, h1, h2⟩ := tup_any rfl (rv.mono e _ _ h) q
    exact ⟨vs, h1, Nat.le_of_eq h2.length.symm⟩
  yld := fun w s ds i x H' e hs q hi y => by
    obtain ⟨vs, h1, h2⟩ := tup_any rfl (rv.mono e _ _ h) q
    obtain ⟨v, h3, h4⟩ := h2.get i _ (get_of hi)
    obtain ⟨e1, y⟩ := y
    have e2 := y vs h1
    rw [h3] at e2
    cases e2
    exact ⟨w, _, .refl w, e1.symm, hs, get_of hi, h4⟩
theorem ig_str {w0 : Wd} {z : Str} : ItG c (Its z) w0 (Itb.seq (.str z)).items where
  go := fun w s ds i e hs q hi => by
    have q : some (signs z) = some ds := q
    cases q
    have hi' : i < z.cps.size := by simpa [signs] using hi
    exact hi'
  stop := fun w s ds e hs q => by
    have q : some (signs z) = some ds := q
    cases q
    show z.cps.size ≤ (signs z).length
    simp [signs]
  yld := fun w s ds i x H' e hs q hi y => by
    have q : some (signs z) = some ds := q
    cases q
    obtain ⟨e1, ch, h1, h2⟩ := y
    refine ⟨w, .str ⟨#[ch]⟩, .refl w, e1.symm, hs, ?_, ?_⟩
    · simp only [signs, List.getElem?_map, Array.getElem?_toList, h1, Option.map_some]
    · subst h2; exact rv_str
theorem rng_items {lo k : Int} {n : Nat} {s : Sto} {ds : List D} (q : (Itb.rng lo k n).items s = some ds) : ds = (List.range n).map fun (i : Nat) => .int (lo + (i : Int) * k) := (Option.some.inj q).symm
theorem ig_rngC {w0 : Wd} {lo k : Int} {n : Nat} : ItG c (Itc lo k n) w0 (Itb.rng lo k n).items where
  go := fun w s ds i e hs q hi => by
    have := rng_items q
    subst this
    have hi' : i < n := by simpa using hi
    exact hi'
  stop := fun w s ds e hs q => by
    have := rng_items q
    subst this
    show n ≤ _
    simp
  yld := fun w s ds i x H' e hs q hi y => by
    have := rng_items q
    subst this
    obtain ⟨e1, e2⟩ := y
    refine ⟨w, .int (lo + (i : Int) * k), .refl w, e1.symm, hs, ?_, by subst e2; exact rv_int⟩
    have hi : i < n := by simpa using hi
    simp [hi]
theorem ig_rng1 {w0 : Wd} {lo : Int} {n : Nat} : ItG c (Itr lo n) w0 (Itb.rng lo 1 n).items where
  go := fun w s ds i e hs q hi => by
    have := rng_items q
    subst this
    have hi' : i < n := by simpa using hi
    exact hi'
  stop := fun w s ds e hs q => by
    have := rng_items q
    subst this
    show n ≤ _
    simp
  yld := fun w s ds i x H' e hs q hi y => by
    have := rng_items q
    subst this
    obtain ⟨e1, e2⟩ := y
    refine ⟨w, .int (lo + (i : Int) * 1), .refl w, e1.symm, hs, ?_, by subst e2; rw [Int.mul_one]; exact rv_int⟩
    have hi : i < n := by simpa using hi
    simp [hi]
theorem numb_get : ∀ (ds : List D) (k i : Nat), (numb k ds)[i]? = ds[i]?.map fun d => .tup [.int ((k + i : Nat) : Int), d]
  | [], k, i => by simp [numb]
  | d :: ds, k, 0 => by simp [numb]
  | d :: ds, k, i + 1 => by
    simp only [numb, List.getElem?_cons_succ]
    rw [numb_get ds (k + 1) i]
    have e : k + 1 + i = k + (i + 1) := by omega
    rw [e]
theorem numb_length : ∀ (ds : List D) (k : Nat), (numb k ds).length = ds.length
  | [], k => rfl
  | d :: ds, k => by simp [numb, numb_length ds]
theorem pair_new {w : Wd} {s : Sto} {H' : Hp} {T' : Addr} {x y : V} {d e : D} (hs : Rs c w s) (n : w.H T' = none) (eH : H' = upd w.H T' (.tup [x, y])) (hx : rv c w d x) (hy : rv c w e y) : ∃ w', Ext w w' ∧ w'.H = H' ∧ Rs c w' s ∧ rv c w' (.tup [d, e]) (.ref T') := by
  refine ⟨w.lay T' (.tup [x, y]), .lay hs n, eH.symm, .lay hs n, ?_⟩
  simp only [rv]
  exact ⟨T', [x, y], rfl, .inl upd_same, .cons (rv.mono (.lay hs n) _ _ hx) (.cons (rv.mono (.lay hs n) _ _ hy) .nil)⟩
theorem ig_enum {w0 : Wd} {d : D} {a : Addr} (hd : ((∃ ds, d = .lst ds) ∨ (∃ ds, d = .klst ds)) ∨ ∃ n, d = .ref n) (h : rv c w0 d (.ref a)) : ItG c (Ite c.K a) w0 (Itb.enum d).items where
  go := fun w s ds i e hs q hi => by
    obtain ⟨zs, q1, rfl⟩ := Option.map_eq_some_iff.mp q
    obtain ⟨vs, h1, h2⟩ := lst_any hd (rv.mono e _ _ h) hs q1
    rw [numb_length] at hi
    obtain ⟨v, h3, _⟩ := h2.get i _ (get_of hi)
    exact ⟨vs, v, h1, h3⟩
  stop := fun w s ds e hs q => by
    obtain ⟨zs, q1, rfl⟩ := Option.map_eq_some_iff.mp q
    obtain ⟨vs, h1, h2⟩ := lst_any hd (rv.mono e _ _ h) hs q1
    refine ⟨vs, h1, ?_⟩
    rw [numb_length]
    exact Nat.le_of_eq h2.length.symm
  yld := fun w s ds i x H' e hs q hi y => by
    obtain ⟨zs, q1, rfl⟩ := Option.map_eq_some_iff.mp q
    obtain ⟨vs, h1, h2⟩ := lst_any hd (rv.mono e _ _ h) hs q1
    rw [numb_length] at hi
    obtain ⟨v, h3, h4⟩ := h2.get i _ (get_of hi)
    obtain ⟨T', x', rfl, hn, eH, y⟩ := y
    have e2 := y vs h1
    rw [h3] at e2
    cases e2
    obtain ⟨w', g1, g2, g3, g4⟩ := pair_new (d := .int (i : Nat)) hs hn eH rv_int h4
    refine ⟨w', _, g1, g2, g3, ?_, g4⟩
    rw [numb_get, get_of hi]
    simp
theorem ig_enumT {w0 : Wd} {ds0 : List D} {a : Addr} (h : rv c w0 (.tup ds0) (.ref a)) : ItG c (IteT c.K a) w0 (Itb.enum (.tup ds0)).items where
  go := fun w s ds i e hs q hi => by
    have q : (seqOf s (.tup ds0)).map (numb 0) = some ds := q
    obtain ⟨zs, q1, rfl⟩ := Option.map_eq_some_iff.mp q
    obtain ⟨vs, h1, h2⟩ := tup_any rfl (rv.mono e _ _ h) q1
    rw [numb_length] at hi
    obtain ⟨v, h3, _⟩ := h2.get i _ (get_of hi)
    exact ⟨vs, v, h1, h3⟩
  stop := fun w s ds e hs q => by
    have q : (seqOf s (.tup ds0)).map (numb 0) = some ds := q
    obtain ⟨zs, q1, rfl⟩ := Option.map_eq_some_iff.mp q
    obtain ⟨vs, h1, h2⟩ := tup_any rfl (rv.mono e _ _ h) q1
    refine ⟨vs, h1, ?_⟩
    rw [numb_length]
    exact Nat.le_of_eq h2.length.symm
  yld := fun w s ds i x H' e hs q hi y => by
    have q : (seqOf s (.tup ds0)).map (numb 0) = some ds := q
    obtain ⟨zs, q1, rfl⟩ := Option.map_eq_some_iff.mp q
    obtain ⟨vs, h1, h2⟩ := tup_any rfl (rv.mono e _ _ h) q1
    rw [numb_length] at hi
    obtain ⟨v, h3, h4⟩ := h2.get i _ (get_of hi)
    obtain ⟨T', x', rfl, hn, eH, y⟩ := y
    have e2 := y vs h1
    rw [h3] at e2
    cases e2
    obtain ⟨w', g1, g2, g3, g4⟩ := pair_new (d := .int (i : Nat)) hs hn eH rv_int h4
    refine ⟨w', _, g1, g2, g3, ?_, g4⟩
    rw [numb_get, get_of hi]
    simp
theorem zip_get {ds es : List D} {i : Nat} (h : i < ((ds.zip es).map fun p => D.tup [p.1, p.2]).length) : ∃ d e, ds[i]? = some d ∧ es[i]? = some e ∧ ((ds.zip es).map fun p => D.tup [p.1, p.2])[i]? = some (.tup [d, e]) := by
  rw [List.length_map, List.length_zip] at h
  have h1 : i < ds.length := by omega
  have h2 : i < es.length := by omega
  refine ⟨ds[i], es[i], get_of h1, get_of h2, ?_⟩
  have hz : (ds.zip es)[i]? = some (ds[i], es[i]) := by rw [List.getElem?_zip_eq_some]; exact ⟨get_of h1, get_of h2⟩
  rw [List.getElem?_map, hz]
  rfl
theorem zip_items {d e : D} {s : Sto} {ds : List D} (q : (Itb.zip d e).items s = some ds) : ∃ zs ys, seqOf s d = some zs ∧ seqOf s e = some ys ∧ (zs.zip ys).map (fun p => D.tup [p.1, p.2]) = ds := by
  obtain ⟨zs, q1, q2⟩ := Option.bind_eq_some_iff.mp q
  obtain ⟨ys, q3, q4⟩ := Option.map_eq_some_iff.mp q2
  exact ⟨zs, ys, q1, q3, q4⟩
theorem ig_zip {w0 : Wd} {d e : D} {a b : Addr} (hd : ((∃ ds, d = .lst ds) ∨ (∃ ds, d = .klst ds)) ∨ ∃ n, d = .ref n) (he : ((∃ ds, e = .lst ds) ∨ (∃ ds, e = .klst ds)) ∨ ∃ n, e = .ref n) (h : rv c w0 d (.ref a)) (h' : rv c w0 e (.ref b)) : ItG c (Itz c.K a b) w0 (Itb.zip d e).items where
  go := fun w s ds i ex hs q hi => by
    obtain ⟨zs, ys, q1, q2, rfl⟩ := zip_items q
    obtain ⟨vs, h1, h2⟩ := lst_any hd (rv.mono ex _ _ h) hs q1
    obtain ⟨us, g1, g2⟩ := lst_any he (rv.mono ex _ _ h') hs q2
    obtain ⟨z, y, e1, e2, _⟩ := zip_get hi
    obtain ⟨v, h3, _⟩ := h2.get i _ e1
    obtain ⟨u, g3, _⟩ := g2.get i _ e2
    exact ⟨vs, us, v, u, h1, g1, h3, g3⟩
  stop := fun w s ds ex hs q => by
    obtain ⟨zs, ys, q1, q2, rfl⟩ := zip_items q
    obtain ⟨vs, h1, h2⟩ := lst_any hd (rv.mono ex _ _ h) hs q1
    obtain ⟨us, g1, g2⟩ := lst_any he (rv.mono ex _ _ h') hs q2
    refine ⟨vs, us, h1, g1, ?_⟩
    rw [List.length_map, List.length_zip, ← h2.length, ← g2.length]
    omega
  yld := fun w s ds i x H' ex hs q hi y => by
    obtain ⟨zs, ys, q1, q2, rfl⟩ := zip_items q
    obtain ⟨vs, h1, h2⟩ := lst_any hd (rv.mono ex _ _ h) hs q1
    obtain ⟨us, g1, g2⟩ := lst_any he (rv.mono ex _ _ h') hs q2
    obtain ⟨z, y', e1, e2, e3⟩ := zip_get hi
    obtain ⟨v, h3, h4⟩ := h2.get i _ e1
    obtain ⟨u, g3, g4⟩ := g2.get i _ e2
    obtain ⟨T', x1, x2, rfl, hn, eH, y1, y2⟩ := y
    have f1 := y1 vs h1
    rw [h3] at f1
    cases f1
    have f2 := y2 us g1
    rw [g3] at f2
    cases f2
    obtain ⟨w', k1, k2, k3, k4⟩ := pair_new hs hn eH h4 g4
    exact ⟨w', _, k1, k2, k3, e3, k4⟩
theorem ig_zipT {w0 : Wd} {d0 e0 : List D} {a b : Addr} (h : rv c w0 (.tup d0) (.ref a)) (h' : rv c w0 (.tup e0) (.ref b)) : ItG c (RZ.ItzT c.K a b) w0 (Itb.zip (.tup d0) (.tup e0)).items where
  go := fun w s ds i ex hs q hi => by
    obtain ⟨zs, ys, q1, q2, rfl⟩ := zip_items q
    obtain ⟨vs, h1, h2⟩ := tup_any rfl (rv.mono ex _ _ h) q1
    obtain ⟨us, g1, g2⟩ := tup_any rfl (rv.mono ex _ _ h') q2
    obtain ⟨z, y, e1, e2, _⟩ := zip_get hi
    obtain ⟨v, h3, _⟩ := h2.get i _ e1
    obtain ⟨u, g3, _⟩ := g2.get i _ e2
    exact ⟨vs, us, v, u, h1, g1, h3, g3⟩
  stop := fun w s ds ex hs q => by
    obtain ⟨zs, ys, q1, q2, rfl⟩ := zip_items q
    obtain ⟨vs, h1, h2⟩ := tup_any rfl (rv.mono ex _ _ h) q1
    obtain ⟨us, g1, g2⟩ := tup_any rfl (rv.mono ex _ _ h') q2
    refine ⟨vs, us, h1, g1, ?_⟩
    rw [List.length_map, List.length_zip, ← h2.length, ← g2.length]
    omega
  yld := fun w s ds i x H' ex hs q hi y => by
    obtain ⟨zs, ys, q1, q2, rfl⟩ := zip_items q
    obtain ⟨vs, h1, h2⟩ := tup_any rfl (rv.mono ex _ _ h) q1
    obtain ⟨us, g1, g2⟩ := tup_any rfl (rv.mono ex _ _ h') q2
    obtain ⟨z, y', e1, e2, e3⟩ := zip_get hi
    obtain ⟨v, h3, h4⟩ := h2.get i _ e1
    obtain ⟨u, g3, g4⟩ := g2.get i _ e2
    obtain ⟨T', x1, x2, rfl, hn, eH, y1, y2⟩ := y
    have f1 := y1 vs h1
    rw [h3] at f1
    cases f1
    have f2 := y2 us g1
    rw [g3] at f2
    cases f2
    obtain ⟨w', k1, k2, k3, k4⟩ := pair_new hs hn eH h4 g4
    exact ⟨w', _, k1, k2, k3, e3, k4⟩
end
end Ir
end
section
set_option Elab.async false
set_option linter.all false
set_option maxRecDepth 100000
/-! several targets from a list -/
namespace Ir
open PySem PySem.Spec PyProof.Rows L2
section
variable {P : Program} {w : World} {A : Around} {E : Value → Shared → Prop}
theorem draw_lst {I a : Addr} {xs : Array Value} (ne : a ≠ I) : ∀ (m i : Nat) (st : Shared) (R : List Value → Shared → Prop), st.heap.IsListIter I a i → st.heap.IsList a xs → i + m ≤ xs.size →
    (∀ g, g.IsListIter I a (i + m) → Heap.SameBut I st.heap g → R ((xs.toList.drop i).take m) { st with heap := g }) → wpAny (model P w) A (draw (.ref I) m) R E st
  | 0, i, st, R, hI, _, _, k => by
    show wpAny _ _ (pure []) R E st
    exact wpAny_pure (by simpa using k st.heap hI (Heap.SameBut.refl ..))
  | m + 1, i, st, R, hI, ha, hm, k => by
    have lt : i < xs.size := by omega
    show wpAny _ _ (pyNext (.ref I) >>= _) R E st
    refine wpAny_bind (wpAny_pyNext_list_item hI ha (x := xs[i]) (by simp [lt]) fun g1 hI1 s1 => ?_)
    refine wpAny_bind (wpAny_holding (draw_lst ne m (i + 1) _ _ hI1 (ha.extBut s1.extBut ne) (by omega) fun g2 hI2 s2 => wpAny_pure ?_))
    have cut : xs.toList.drop i = xs[i] :: xs.toList.drop (i + 1) := by simp [List.drop_eq_getElem_cons, lt]
    have z := k g2 (by rw [show i + (m + 1) = i + 1 + m by omega]; exact hI2) (s1.trans s2)
    rw [cut, List.take_succ_cons] at z
    exact z
theorem items_lst {st : Shared} {a : Addr} {xs : Array Value} {R : List Value → Shared → Prop} (hh : A.handled = none) (ha : st.heap.IsList a xs)
    (k : ∀ g, Heap.ExtBut st.heap.objs.size st.heap g → R xs.toList { st with heap := g }) : wpAny (model P w) A (unpackItems (.ref a) xs.size none) R E st := by
  have ne : a ≠ st.heap.objs.size := by obtain ⟨o, ho, _⟩ := ha; exact Nat.ne_of_lt (Heap.lt_size ho)
  unfold unpackItems
  refine wpAny_bind ?_
  unfold notIterableAtAll
  refine wpAny_bind (wpAny_specialOf ha.typeIs slot_list_iter.lookup ?_)
  refine wpAny_pure ?_
  simp only [Bool.false_eq_true, if_false]
  refine wpAny_bind (wpAny_holding (wpAny_pyIter_list ha ?_))
  refine wpAny_bind (wpAny_holding (draw_lst ne xs.size 0 _ _ ⟨_, Heap.get?_push_size _ rfl, rfl, rfl⟩ (ha.push _) (by omega) fun g1 hI1 s1 => ?_))
  have all : List.take xs.size (List.drop 0 xs.toList) = xs.toList := by
    rw [List.drop_zero]
    exact List.take_of_length_le (by simp)
  rw [all, if_neg (by simp)]
  have ha1 : g1.IsList a xs := (ha.push _).extBut s1.extBut ne
  refine wpAny_bind (wpAny_holding (wpAny_pyNext_list_end hh hI1 ha1 (by simp) fun g2 e2 => ?_))
  simp only [Option.isSome_none, Bool.false_eq_true, if_false]
  exact wpAny_pure (k g2 fun b o hb e => e2 b o hb (s1.extBut b o hb (Heap.get?_push_of_some _ e)))
theorem assign_lst {st : Shared} {env : Env} {es : List Expr} {n : Nat} {pos : Pos} {a : Addr} {xs : Array Value} {R : Unit → Shared → Prop} (hh : A.handled = none) (ha : st.heap.IsList a xs)
    (hn : (assignEach es env).length = xs.size) (hs : (assignEach es env).findIdx? (·.1) = none)
    (k : ∀ g, Heap.ExtBut st.heap.objs.size st.heap g → wpAny (model P w) A (assignInOrder ((assignEach es env).map (·.2)) xs.toList) R E { st with heap := g }) :
    wpAny (model P w) A (assign (.Tuple es n pos) env (.ref a)) R E st := by
  rw [PyProof.Rows.assign_Tuple]
  refine wpAny_bind (wpAny_standAt ?_)
  unfold unpack
  rw [hn, hs]
  exact wpAny_bind (wpAny_holding (items_lst hh ha k))
end
/-- targets from a tuple or a list of that length -/
def gUnp (K : PySem.W.Frag) (n : Nat) (t : TGs) : TG := fun v σ H Q => ∃ a xs, v = .ref a ∧ (SqT K H a xs ∨ SqL K H a xs) ∧ xs.length = n ∧ t xs σ H Q
theorem pg_unp {X : Cx} {pos : Pos} {es : List Expr} {k : Nat} {t : TGs} {n : Nat} (hc : X.calm = true) (h : PGs X es t)
    (hn : (assignEach es X.env).length = n) (hs : (assignEach es X.env).findIdx? (·.1) = none) : PG X (.Tuple es k pos) (gUnp X.K n t) := by
  refine ⟨fun pins s σ H v u Q I r hw => ?_⟩
  obtain ⟨a, xs, e1, hq | hq, hl, hw⟩ := hw
  · exact (pg_tup hc h hn hs).run pins s σ H v u Q I r ⟨a, xs, e1, hq, hl, hw⟩
  subst e1
  cases r
  obtain ⟨its, rv, ⟨o, m, g1, g2, g3, g4⟩, hz⟩ := I.list hq
  have hL : s.heap.IsList a its.toArray := ⟨o, g1, g2, m, g4⟩
  refine assign_lst (I.ok.hd hc) hL (by simp [hn, ← hl, rv.length]) hs fun g hx => ?_
  have I1 : Inv X pins σ H { s with heap := g } := I.kept (t' := s.toks) fun b o e => hx b o (Nat.ne_of_lt (Heap.lt_size e)) e
  exact h.run pins _ σ H xs _ Q I1 (by simpa using rv) hw
end Ir
end
section
set_option Elab.async false
set_option linter.all false
set_option maxRecDepth 100000
set_option maxHeartbeats 1000000
/-! zip of a list or a tuple with a list or a tuple -/
namespace Ir
open PySem PySem.Spec PyProof.Rows L2
/-- a tuple (true) or a list (false) of the heap, an iterator over it -/
def Hsq (k : Bool) (h : Heap) (a : Addr) (xs : Array Value) : Prop := if k = true then h.IsTuple a xs else h.IsList a xs
def Hit (k : Bool) (h : Heap) (it a : Addr) (i : Nat) : Prop := if k = true then h.IsTupleIter it a i else h.IsListIter it a i
theorem Hsq.to {k : Bool} {h h' : Heap} {a : Addr} {xs : Array Value} (x : Hsq k h a xs) (e : ∀ o, h.get? a = some o → h'.get? a = some o) : Hsq k h' a xs := by
  cases k
  · exact Heap.IsList.at x e
  · obtain ⟨o, e1, e2⟩ := x; exact ⟨o, e o e1, e2⟩
theorem Hit.to {k : Bool} {h h' : Heap} {it a : Addr} {i : Nat} (x : Hit k h it a i) (e : ∀ o, h.get? it = some o → h'.get? it = some o) : Hit k h' it a i := by
  cases k
  · exact Heap.IsListIter.at x e
  · exact Heap.IsTupleIter.at x e
theorem Hsq.is {k : Bool} {h : Heap} {a : Addr} {xs : Array Value} (x : Hsq k h a xs) : ∃ o, h.get? a = some o := by
  cases k <;> exact let ⟨o, e, _⟩ := x; ⟨o, e⟩
theorem Hit.is {k : Bool} {h : Heap} {it a : Addr} {i : Nat} (x : Hit k h it a i) : ∃ o, h.get? it = some o ∧ ∀ v, o.data ≠ .seq #[v] 0 := by
  cases k
  · obtain ⟨o, e, _, d⟩ := x; exact ⟨o, e, fun v q => by rw [d] at q; cases q⟩
  · obtain ⟨o, e, _, d⟩ := x; exact ⟨o, e, fun v q => by rw [d] at q; cases q⟩
section
variable {P : Program} {w : World} {A : Around} {E : Value → Shared → Prop} {s : Shared}
theorem nx_item {k : Bool} {it a : Addr} {i : Nat} {xs : Array Value} {x : Value} {Q : Value → Shared → Prop} (h1 : Hit k s.heap it a i) (h2 : Hsq k s.heap a xs) (h3 : xs[i]? = some x) (h4 : ∀ g, Hit k g it a (i + 1) → Heap.SameBut it s.heap g → Q x { s with heap := g }) :
    wpAny (model P w) A (Builtin.SmallTypes.nextOf (.ref it)) Q E s := by
  cases k
  · exact wpAny_nextOf_list_item h1 h2 h3 h4
  · exact RZ.nextOf_tuple_item h1 h2 h3 h4
theorem nx_end {k : Bool} {it a : Addr} {i : Nat} {xs : Array Value} {Q : Value → Shared → Prop} (hh : A.handled = none) (h1 : Hit k s.heap it a i) (h2 : Hsq k s.heap a xs) (h3 : xs[i]? = none) (h4 : ∀ g e, Heap.ExtBut it s.heap g → (∃ o, g.get? e = some o ∧ o.cls = .type "StopIteration") → E (.ref e) { s with heap := g }) :
    wpAny (model P w) A (Builtin.SmallTypes.nextOf (.ref it)) Q E s := by
  cases k
  · exact wpAny_nextOf_list_end hh h1 h2 h3 h4
  · exact RZ.nextOf_tuple_end hh h1 h2 h3 h4
/-- how a zip stands at turn i -/
structure Zp (k1 k2 : Bool) (h : Heap) (z TI i1 i2 a b : Addr) (i : Nat) (xs ys : Array Value) : Prop where
  ti : IsPair h TI (.ref i1) (.ref i2)
  f1 : Hit k1 h i1 a i
  f2 : Hit k2 h i2 b i
  s1 : Hsq k1 h a xs
  s2 : Hsq k2 h b ys
variable {k1 k2 : Bool} {z TI TO i1 i2 a b : Addr} {i : Nat} {xs ys : Array Value} {x y u v : Value}
theorem Zp.to {h h' : Heap} {c : Addr} (Z : Zp k1 k2 h z TI i1 i2 a b i xs ys) (e : ∀ c o, c = TI ∨ c = i1 ∨ c = i2 ∨ c = a ∨ c = b → h.get? c = some o → h'.get? c = some o) : Zp k1 k2 h' z TI i1 i2 a b i xs ys :=
  ⟨e _ _ (.inl rfl) Z.ti, Z.f1.to fun o q => e _ o (by simp) q, Z.f2.to fun o q => e _ o (by simp) q, Z.s1.to fun o q => e _ o (by simp) q, Z.s2.to fun o q => e _ o (by simp) q⟩
/-- the next pair, the last one being out of use -/
theorem zp_item {Q : Value → Shared → Prop} (D : ZipApart z TI TO i1 i2 a b) (hz : IsZip s.heap z TI TO .none) (hT : IsPair s.heap TO u v) (Z : Zp k1 k2 s.heap z TI i1 i2 a b i xs ys) (hx : xs[i]? = some x) (hy : ys[i]? = some y)
    (hQ : ∀ g, IsZip g z TI TO (rawInt s.heap.objs.size) → IsPair g TO x y → Zp k1 k2 g z TI i1 i2 a b (i + 1) xs ys → IsPair g s.heap.objs.size x y → g.objs.size = s.heap.objs.size + 1 → (∀ c o, c ≠ z → c ≠ TO → c ≠ i1 → c ≠ i2 → s.heap.get? c = some o → g.get? c = some o) → Q (.ref s.heap.objs.size) { s with heap := g }) :
    wpAny (model P w) A (Builtin.«zip.__next__» ⟨[.ref z], []⟩) (fun f s' => ∃ r, f = .done (.ret r) ∧ Q r s') E s := by
  show wpAny _ _ (field (.ref z) 2 >>= _) _ _ _; refine wpAny_bind (wpAny_field hz rfl (x := .bool false) rfl ?_)
  show wpAny _ _ (field (.ref z) 3 >>= _) _ _ _; refine wpAny_bind (wpAny_field hz rfl (x := .ref TI) rfl ?_); refine wpAny_bind (wpAny_seqItems Z.ti rfl ?_)
  show wpAny _ _ (Builtin.SmallTypes.ownedTupleIsFree (.ref z) >>= _) _ _ _; refine wpAny_bind ?_; unfold Builtin.SmallTypes.ownedTupleIsFree
  refine wpAny_bind (wpAny_field hz rfl (x := .none) rfl (wpAny_pure ?_)); simp only [if_true]
  refine wpAny_bind (wpAny_rule ?_); refine wpAny_bind (wpAny_field hz rfl (x := .ref TO) rfl ?_)
  refine wpAny_bind (wpAny_setField_rec hz (by simp) fun g1 z1 q1 => ?_); replace z1 : IsZip g1 z TI TO .ellipsis := z1
  refine wpAny_bind ?_; simp only [List.zipIdx_cons, List.zipIdx_nil, List.forIn_cons, List.forIn_nil]
  refine wpAny_bind (wpAny_bind (wpAny_onRaise ?_)); show wpAny _ _ (Builtin.SmallTypes.nextOf (.ref i1) >>= _) _ _ _
  refine wpAny_bind (nx_item (s := { s with heap := g1 }) (Z.f1.to fun o => q1.extBut _ _ D.i1z) (Z.s1.to fun o => q1.extBut _ _ D.l1z) hx fun g2 n1 q2 => wpAny_pure ?_)
  have t2 : IsPair g2 TO u v := q2.extBut _ _ D.TOi1 (q1.extBut _ _ D.TOz hT)
  refine wpAny_bind (wpAny_seqItems t2 rfl ?_); refine wpAny_bind (wpAny_updateSeq_pair t2 fun g3 t3 q3 => ?_); replace t3 : IsPair g3 TO x v := t3
  refine wpAny_bind (wpAny_letGo (wpAny_pure ?_)); refine wpAny_bind (wpAny_bind (wpAny_onRaise ?_)); show wpAny _ _ (Builtin.SmallTypes.nextOf (.ref i2) >>= _) _ _ _
  refine wpAny_bind (nx_item (s := { s with heap := g3 }) (Z.f2.to fun o e => q3.extBut _ _ D.TOi2.symm (q2.extBut _ _ D.i12.symm (q1.extBut _ _ D.i2z e))) (Z.s2.to fun o e => q3.extBut _ _ D.l2TO (q2.extBut _ _ D.l2i1 (q1.extBut _ _ D.l2z e))) hy fun g4 n2 q4 => wpAny_pure ?_)
  have t4 : IsPair g4 TO x v := q4.extBut _ _ D.TOi2 t3
  refine wpAny_bind (wpAny_seqItems t4 rfl ?_); refine wpAny_bind (wpAny_updateSeq_pair t4 fun g5 t5 q5 => ?_); replace t5 : IsPair g5 TO x y := t5
  refine wpAny_bind (wpAny_letGo (wpAny_pure (wpAny_pure ?_))); refine wpAny_bind (wpAny_seqItems t5 rfl ?_); refine wpAny_bind (wpAny_newTuple ?_)
  have sz : g5.objs.size = s.heap.objs.size := by rw [q5.1, q4.1, q3.1, q2.1, q1.1]
  have z5 : IsZip g5 z TI TO .ellipsis := q5.extBut _ _ D.TOz.symm (q4.extBut _ _ D.i2z.symm (q3.extBut _ _ D.TOz.symm (q2.extBut _ _ D.i1z.symm z1)))
  have up0 : ∀ c o, c ≠ z → c ≠ TO → c ≠ i1 → c ≠ i2 → s.heap.get? c = some o → g5.get? c = some o := fun c o c1 c2 c3 c4 e => q5.extBut _ _ c2 (q4.extBut _ _ c4 (q3.extBut _ _ c2 (q2.extBut _ _ c3 (q1.extBut _ _ c1 e))))
  have m1 : Hit k1 g5 i1 a (i + 1) := n1.to fun o e => q5.extBut _ _ D.TOi1.symm (q4.extBut _ _ D.i12 (q3.extBut _ _ D.TOi1.symm e))
  have m2 : Hit k2 g5 i2 b (i + 1) := n2.to fun o e => q5.extBut _ _ D.TOi2.symm e
  have zl : z < g5.objs.size := Heap.lt_size z5
  show wpAny _ _ (Builtin.SmallTypes.ownedTupleHandOut (.ref z) (.ref g5.objs.size) >>= _) _ _ _; refine wpAny_bind ?_; unfold Builtin.SmallTypes.ownedTupleHandOut
  have z6 : IsZip (g5.push { cls := .type "tuple", data := .seq #[x, y] }) z TI TO .ellipsis := Heap.get?_push_of_some _ z5
  refine wpAny_bind (wpAny_setField_rec z6 (by simp) fun g7 z7 q7 => ?_); replace z7 : IsZip g7 z TI TO (rawInt g5.objs.size) := z7
  refine wpAny_setField_rec z7 (by simp) fun g8 z8 q8 => ?_; replace z8 : IsZip g8 z TI TO (rawInt g5.objs.size) := z8
  have up : ∀ c o, c ≠ z → g5.get? c = some o → g8.get? c = some o := fun c o c1 e => q8.extBut _ _ c1 (q7.extBut _ _ c1 (Heap.get?_push_of_some _ e))
  have t8 : IsPair g8 g5.objs.size x y := q8.extBut _ _ (Nat.ne_of_gt zl) (q7.extBut _ _ (Nat.ne_of_gt zl) (Heap.get?_push_size _ rfl))
  have s8 : g8.objs.size = g5.objs.size + 1 := by rw [q8.1, q7.1, Heap.size_push]
  rw [sz] at z8 t8 s8
  refine wpAny_pure ⟨_, rfl, ?_⟩; show Q (.ref g5.objs.size) _; rw [sz]
  have ne : TI ≠ z := D.TIz
  exact hQ g8 z8 (up _ _ D.TOz t5) ⟨up _ _ D.TIz (up0 _ _ D.TIz D.TITO D.TIi1 D.TIi2 Z.ti), m1.to fun o => up _ o D.i1z, m2.to fun o => up _ o D.i2z, Z.s1.to fun o e => up _ o D.l1z (up0 _ o D.l1z D.l1TO D.l1i1 D.l1i2 e), Z.s2.to fun o e => up _ o D.l2z (up0 _ o D.l2z D.l2TO D.l2i1 D.l2i2 e)⟩ t8 s8 fun c o c1 c2 c3 c4 e => up c o c1 (up0 c o c1 c2 c3 c4 e)
/-- no pair more -/
theorem zp_end {Q : Fin → Shared → Prop} (hh : A.handled = none) (D : ZipApart z TI TO i1 i2 a b) (hz : IsZip s.heap z TI TO .none) (hT : IsPair s.heap TO u v) (Z : Zp k1 k2 s.heap z TI i1 i2 a b i xs ys) (hend : xs[i]? = none ∨ ys[i]? = none)
    (hE : ∀ g e, (∀ c o, c ≠ z → c ≠ TO → c ≠ i1 → c ≠ i2 → s.heap.get? c = some o → g.get? c = some o) → (∃ o, g.get? e = some o ∧ o.cls = .type "StopIteration") → E (.ref e) { s with heap := g }) :
    wpAny (model P w) A (Builtin.«zip.__next__» ⟨[.ref z], []⟩) Q E s := by
  show wpAny _ _ (field (.ref z) 2 >>= _) _ _ _; refine wpAny_bind (wpAny_field hz rfl (x := .bool false) rfl ?_)
  show wpAny _ _ (field (.ref z) 3 >>= _) _ _ _; refine wpAny_bind (wpAny_field hz rfl (x := .ref TI) rfl ?_); refine wpAny_bind (wpAny_seqItems Z.ti rfl ?_)
  show wpAny _ _ (Builtin.SmallTypes.ownedTupleIsFree (.ref z) >>= _) _ _ _; refine wpAny_bind ?_; unfold Builtin.SmallTypes.ownedTupleIsFree
  refine wpAny_bind (wpAny_field hz rfl (x := .none) rfl (wpAny_pure ?_)); simp only [if_true]
  refine wpAny_bind (wpAny_rule ?_); refine wpAny_bind (wpAny_field hz rfl (x := .ref TO) rfl ?_)
  refine wpAny_bind (wpAny_setField_rec hz (by simp) fun g1 z1 q1 => ?_); replace z1 : IsZip g1 z TI TO .ellipsis := z1
  refine wpAny_bind ?_; simp only [List.zipIdx_cons, List.zipIdx_nil, List.forIn_cons, List.forIn_nil]
  refine wpAny_bind (wpAny_bind (wpAny_onRaise ?_)); show wpAny _ _ (Builtin.SmallTypes.nextOf (.ref i1) >>= _) _ _ _
  cases hx : xs[i]? with
  | none =>
    refine wpAny_bind (nx_end (s := { s with heap := g1 }) hh (Z.f1.to fun o => q1.extBut _ _ D.i1z) (Z.s1.to fun o => q1.extBut _ _ D.l1z) hx fun g2 e q2 ⟨oe, he, ce⟩ => ?_)
    have z2 : IsZip g2 z TI TO .ellipsis := q2 _ _ D.i1z.symm z1
    have ez : e ≠ z := fun q => by subst q; rw [z2] at he; cases he; simp at ce
    refine wpAny_setField_rec z2 (by simp) fun g3 _ q3 => hE g3 e (fun c o c1 _ c3 _ q => q3.extBut _ _ c1 (q2 _ _ c3 (q1.extBut _ _ c1 q))) ⟨oe, q3.extBut _ _ ez he, ce⟩
  | some x =>
    have hy : ys[i]? = none := hend.elim (fun h => by rw [hx] at h; cases h) id
    refine wpAny_bind (nx_item (s := { s with heap := g1 }) (Z.f1.to fun o => q1.extBut _ _ D.i1z) (Z.s1.to fun o => q1.extBut _ _ D.l1z) hx fun g2 n1 q2 => wpAny_pure ?_)
    have t2 : IsPair g2 TO u v := q2.extBut _ _ D.TOi1 (q1.extBut _ _ D.TOz hT)
    refine wpAny_bind (wpAny_seqItems t2 rfl ?_); refine wpAny_bind (wpAny_updateSeq_pair t2 fun g3 t3 q3 => ?_)
    refine wpAny_bind (wpAny_letGo (wpAny_pure ?_)); refine wpAny_bind (wpAny_bind (wpAny_onRaise ?_)); show wpAny _ _ (Builtin.SmallTypes.nextOf (.ref i2) >>= _) _ _ _
    refine wpAny_bind (nx_end (s := { s with heap := g3 }) hh (Z.f2.to fun o e => q3.extBut _ _ D.TOi2.symm (q2.extBut _ _ D.i12.symm (q1.extBut _ _ D.i2z e))) (Z.s2.to fun o e => q3.extBut _ _ D.l2TO (q2.extBut _ _ D.l2i1 (q1.extBut _ _ D.l2z e))) hy fun g4 e q4 ⟨oe, he, ce⟩ => ?_)
    have z4 : IsZip g4 z TI TO .ellipsis := q4 _ _ D.i2z.symm (q3.extBut _ _ D.TOz.symm (q2.extBut _ _ D.i1z.symm z1))
    have ez : e ≠ z := fun q => by subst q; rw [z4] at he; cases he; simp at ce
    refine wpAny_setField_rec z4 (by simp) fun g5 _ q5 => hE g5 e (fun c o c1 c2 c3 c4 q => q5.extBut _ _ c1 (q4 _ _ c4 (q3.extBut _ _ c2 (q2.extBut _ _ c3 (q1.extBut _ _ c1 q))))) ⟨oe, q5.extBut _ _ ez he, ce⟩
variable {T : Addr} {f : Bool} {oT : Obj}
/-- .. while the last pair is in use -/
theorem zh_item {Q : Value → Shared → Prop} (D : ZipApart z TI TO i1 i2 a b) (hz : IsZipHeld s.heap z TI TO T f) (hT : s.heap.get? T = some oT) (Z : Zp k1 k2 s.heap z TI i1 i2 a b i xs ys) (hx : xs[i]? = some x) (hy : ys[i]? = some y)
    (hQ : ∀ g, IsZipHeld g z TI TO T true → Zp k1 k2 g z TI i1 i2 a b (i + 1) xs ys → IsPair g s.heap.objs.size x y → g.objs.size = s.heap.objs.size + 1 → (∀ c o, c ≠ z → c ≠ i1 → c ≠ i2 → s.heap.get? c = some o → g.get? c = some o) → Q (.ref s.heap.objs.size) { s with heap := g }) :
    wpAny (model P w) A (Builtin.«zip.__next__» ⟨[.ref z], []⟩) (fun f s' => ∃ r, f = .done (.ret r) ∧ Q r s') E s := by
  show wpAny _ _ (field (.ref z) 2 >>= _) _ _ _; refine wpAny_bind (wpAny_field hz rfl (x := .bool false) rfl ?_)
  show wpAny _ _ (field (.ref z) 3 >>= _) _ _ _; refine wpAny_bind (wpAny_field hz rfl (x := .ref TI) rfl ?_); refine wpAny_bind (wpAny_seqItems Z.ti rfl ?_)
  show wpAny _ _ (Builtin.SmallTypes.ownedTupleIsFree (.ref z) >>= _) _ _ _; refine wpAny_bind (wpAny_tupleHeld_zip hz hT fun g1 z1 q1 => ?_)
  simp only [Bool.false_eq_true, if_false]; refine wpAny_bind ?_; rw [← Array.forIn_toList]; simp only [List.forIn_cons, List.forIn_nil]
  refine wpAny_bind (wpAny_bind (wpAny_holding ?_)); show wpAny _ _ (Builtin.SmallTypes.nextOf (.ref i1) >>= _) _ _ _
  refine wpAny_bind (nx_item (s := { s with heap := g1 }) (Z.f1.to fun o => q1.extBut _ _ D.i1z) (Z.s1.to fun o => q1.extBut _ _ D.l1z) hx fun g2 n1 q2 => wpAny_pure (wpAny_pure ?_))
  refine wpAny_bind (wpAny_bind (wpAny_holding ?_)); show wpAny _ _ (Builtin.SmallTypes.nextOf (.ref i2) >>= _) _ _ _
  refine wpAny_bind (nx_item (s := { s with heap := g2 }) (Z.f2.to fun o e => q2.extBut _ _ D.i12.symm (q1.extBut _ _ D.i2z e)) (Z.s2.to fun o e => q2.extBut _ _ D.l2i1 (q1.extBut _ _ D.l2z e)) hy fun g3 n2 q3 => wpAny_pure (wpAny_pure (wpAny_pure ?_)))
  show wpAny _ _ (newTuple [x, y] >>= _) _ _ _; refine wpAny_bind (wpAny_newTuple ?_)
  have sz : g3.objs.size = s.heap.objs.size := by rw [q3.1, q2.1, q1.1]
  have z3 : IsZipHeld g3 z TI TO T true := q3.extBut _ _ D.i2z.symm (q2.extBut _ _ D.i1z.symm z1)
  have up0 : ∀ c o, c ≠ z → c ≠ i1 → c ≠ i2 → s.heap.get? c = some o → g3.get? c = some o := fun c o c1 c2 c3 e => q3.extBut _ _ c3 (q2.extBut _ _ c2 (q1.extBut _ _ c1 e))
  have up : ∀ c o, c ≠ z → c ≠ i1 → c ≠ i2 → s.heap.get? c = some o → (g3.push { cls := .type "tuple", data := .seq #[x, y] }).get? c = some o := fun c o c1 c2 c3 e => Heap.get?_push_of_some _ (up0 c o c1 c2 c3 e)
  refine wpAny_pure ⟨_, rfl, ?_⟩; show Q (.ref g3.objs.size) _
  have tp : IsPair (g3.push { cls := .type "tuple", data := .seq #[x, y] }) g3.objs.size x y := Heap.get?_push_size _ rfl
  have s4 : (g3.push { cls := .type "tuple", data := .seq #[x, y] }).objs.size = g3.objs.size + 1 := Heap.size_push ..
  rw [sz] at tp s4 ⊢
  exact hQ _ (Heap.get?_push_of_some _ z3) ⟨up _ _ D.TIz D.TIi1 D.TIi2 Z.ti, n1.to fun o e => Heap.get?_push_of_some _ (q3.extBut _ _ D.i12 e), n2.to fun o e => Heap.get?_push_of_some _ e, Z.s1.to fun o => up _ o D.l1z D.l1i1 D.l1i2, Z.s2.to fun o => up _ o D.l2z D.l2i1 D.l2i2⟩ tp s4 up
theorem zh_end {Q : Fin → Shared → Prop} (hh : A.handled = none) (D : ZipApart z TI TO i1 i2 a b) (hz : IsZipHeld s.heap z TI TO T f) (hT : s.heap.get? T = some oT) (Z : Zp k1 k2 s.heap z TI i1 i2 a b i xs ys) (hend : xs[i]? = none ∨ ys[i]? = none)
    (hE : ∀ g e, (∀ c o, c ≠ z → c ≠ i1 → c ≠ i2 → s.heap.get? c = some o → g.get? c = some o) → (∃ o, g.get? e = some o ∧ o.cls = .type "StopIteration") → E (.ref e) { s with heap := g }) :
    wpAny (model P w) A (Builtin.«zip.__next__» ⟨[.ref z], []⟩) Q E s := by
  show wpAny _ _ (field (.ref z) 2 >>= _) _ _ _; refine wpAny_bind (wpAny_field hz rfl (x := .bool false) rfl ?_)
  show wpAny _ _ (field (.ref z) 3 >>= _) _ _ _; refine wpAny_bind (wpAny_field hz rfl (x := .ref TI) rfl ?_); refine wpAny_bind (wpAny_seqItems Z.ti rfl ?_)
  show wpAny _ _ (Builtin.SmallTypes.ownedTupleIsFree (.ref z) >>= _) _ _ _; refine wpAny_bind (wpAny_tupleHeld_zip hz hT fun g1 z1 q1 => ?_)
  simp only [Bool.false_eq_true, if_false]; refine wpAny_bind ?_; rw [← Array.forIn_toList]; simp only [List.forIn_cons, List.forIn_nil]
  refine wpAny_bind (wpAny_bind (wpAny_holding ?_)); show wpAny _ _ (Builtin.SmallTypes.nextOf (.ref i1) >>= _) _ _ _
  cases hx : xs[i]? with
  | none =>
    refine wpAny_bind (nx_end (s := { s with heap := g1 }) hh (Z.f1.to fun o => q1.extBut _ _ D.i1z) (Z.s1.to fun o => q1.extBut _ _ D.l1z) hx fun g2 e q2 he => ?_)
    exact hE g2 e (fun c o c1 c2 _ q => q2 _ _ c2 (q1.extBut _ _ c1 q)) he
  | some x =>
    have hy : ys[i]? = none := hend.elim (fun h => by rw [hx] at h; cases h) id
    refine wpAny_bind (nx_item (s := { s with heap := g1 }) (Z.f1.to fun o => q1.extBut _ _ D.i1z) (Z.s1.to fun o => q1.extBut _ _ D.l1z) hx fun g2 n1 q2 => wpAny_pure (wpAny_pure ?_))
    refine wpAny_bind (wpAny_bind (wpAny_holding ?_)); show wpAny _ _ (Builtin.SmallTypes.nextOf (.ref i2) >>= _) _ _ _
    refine wpAny_bind (nx_end (s := { s with heap := g2 }) hh (Z.f2.to fun o e => q2.extBut _ _ D.i12.symm (q1.extBut _ _ D.i2z e)) (Z.s2.to fun o e => q2.extBut _ _ D.l2i1 (q1.extBut _ _ D.l2z e)) hy fun g3 e q3 he => ?_)
    exact hE g3 e (fun c o c1 c2 c3 q => q3 _ _ c3 (q2.extBut _ _ c2 (q1.extBut _ _ c1 q))) he
end
/-! loops over it -/
def SqK (k : Bool) (K : PySem.W.Frag) (H : Hp) (a : Addr) (xs : List V) : Prop := if k = true then SqT K H a xs else SqL K H a xs
theorem SqK.inv {X : Cx} {pins : List (Addr × Obj)} {σ : L2.St} {H : Hp} {s : Shared} {k : Bool} {a : Addr} {xs : List V} (I : Inv X pins σ H s) (h : SqK k X.K H a xs) : ∃ its : List Value, Vals xs its ∧ Hsq k s.heap a its.toArray ∧ xs.length ≤ sizeLine := by
  cases k
  · obtain ⟨its, r, p, l⟩ := I.list h; exact ⟨its, r, p.isList, l⟩
  · exact I.tuple h
theorem SqK.inj {X : Cx} {pins : List (Addr × Obj)} {σ : L2.St} {H : Hp} {s : Shared} {k : Bool} {a : Addr} {xs ys : List V} (I : Inv X pins σ H s) (h : SqK k X.K H a xs) (h' : SqK k X.K H a ys) : xs = ys := by
  cases k
  · exact I.list_inj h h'
  · exact I.tuple_inj h h'
def ItzG (k1 k2 : Bool) (K : PySem.W.Frag) (a b : Addr) : It :=
  ⟨fun i H => ∃ (xs ys : List V) (x y : V), SqK k1 K H a xs ∧ SqK k2 K H b ys ∧ xs[i]? = some x ∧ ys[i]? = some y,
    fun i H v H' => ∃ T x y, v = .ref T ∧ H T = none ∧ H' = upd H T (.tup [x, y]) ∧ (∀ xs, SqK k1 K H a xs → xs[i]? = some x) ∧ ∀ ys, SqK k2 K H b ys → ys[i]? = some y,
    fun i H => ∃ xs ys : List V, SqK k1 K H a xs ∧ SqK k2 K H b ys ∧ (xs.length ≤ i ∨ ys.length ≤ i)⟩
theorem turn_zp {P : Program} {w : World} {K : PySem.W.Frag} {elts : List Expr} {kk : Nat} {tpos : Pos} {a b z TI TO i1 i2 : Addr} {k1 k2 : Bool} (D : ZipApart z TI TO i1 i2 a b) :
    Turn P w K (.Tuple elts kk tpos) (ItzG k1 k2 K a b) [z, TI, TO, i1, i2] z (fun i h => IsZip h z TI TO .none ∧ IsPair h TI (.ref i1) (.ref i2) ∧ (∃ x y, IsPair h TO x y) ∧ Hit k1 h i1 a i ∧ Hit k2 h i2 b i) where
  mem := by simp
  obj := fun i h st c hc => by
    obtain ⟨hz, hTI, ⟨x, y, hTO⟩, h1, h2⟩ := st
    simp only [List.mem_cons, List.not_mem_nil, or_false] at hc
    rcases hc with rfl | rfl | rfl | rfl | rfl
    · exact ⟨_, hz, fun v q => nomatch q⟩
    · exact ⟨_, hTI, fun v q => nomatch q⟩
    · exact ⟨_, hTO, fun v q => nomatch q⟩
    · cases k1 <;> obtain ⟨o, e, _, d⟩ := h1 <;> exact ⟨o, e, fun v q => by rw [d] at q; cases q⟩
    · cases k2 <;> obtain ⟨o, e, _, d⟩ := h2 <;> exact ⟨o, e, fun v q => by rw [d] at q; cases q⟩
  keep := fun i h h' st k => by
    obtain ⟨hz, hTI, ⟨x, y, hTO⟩, h1, h2⟩ := st
    exact ⟨k z (by simp) _ hz, k TI (by simp) _ hTI, ⟨x, y, k TO (by simp) _ hTO⟩, h1.to fun o q => k i1 (by simp) o q, h2.to fun o q => k i2 (by simp) o q⟩
  item := by
    intro X hP hw hK hc i pins s σ H E I hf st hg; subst hP hw hK
    obtain ⟨hz, hTI, ⟨x0, y0, hTO⟩, h1, h2⟩ := st; obtain ⟨xs, ys, x, y, qx, qy, hx, hy⟩ := hg
    obtain ⟨its, rv, p, _⟩ := qx.inv I; obtain ⟨its2, rv2, p2, _⟩ := qy.inv I
    obtain ⟨u, hu, ru⟩ := rv.get hx; obtain ⟨u2, hu2, ru2⟩ := rv2.get hy
    have zl : z < s.heap.objs.size := Heap.lt_size hz
    have hTy : s.TypeIs (.ref z) "zip" := ⟨_, hz, rfl⟩
    unfold pyNext
    refine wpAny_bind (wpAny_attempt (wpAny_callSpecial?_slot (name := Str.ofString "__next__") hTy F.slot_zip_next (wpAny_call_entry F.slot_zip_next hTy F.entry_zip_next
      (zp_item (x := u) (y := u2) D hz hTO ⟨hTI, h1, h2, p, p2⟩ (by simpa using hu) (by simpa using hu2) fun g z' t' Z' hT hsz hk => wpAny_pure ?_) (F.args_zip_next_1 _))))
    refine ⟨_, rfl, wpAny_letOwnedTupleGo_zip (s := { s with heap := g }) z' fun g2 z2 sb => ?_⟩
    have hT2 : g2.get? s.heap.objs.size = some { cls := .type "tuple", data := .seq #[u, u2] } := (sb.2 _ (Nat.ne_of_gt zl)).trans hT
    have new : ObjOk X.prog X.w (upd H s.heap.objs.size (.tup [x, y])) g2 s.heap.objs.size (.tup [x, y]) := ⟨by show 2 ≤ sizeLine; decide, [u, u2], .cons ru (.cons ru2 .nil), ⟨_, hT2, rfl, _, rfl⟩⟩
    have I1 : Inv X pins σ (upd H s.heap.objs.size (.tup [x, y])) { s with heap := g2 } :=
      I.turnedNew (t' := s.toks) (ch := [z, TI, TO, i1, i2]) (fun c o hb q => by
        simp only [List.mem_cons, List.not_mem_nil, or_false, not_or] at hb
        exact (sb.2 c hb.1).trans (hk c o hb.1 hb.2.2.1 hb.2.2.2.1 hb.2.2.2.2 q)) hf (Nat.le_refl _) new
    refine ⟨.ref s.heap.objs.size, _, I1, rfl, ⟨_, x, y, rfl, I.hok.fresh (Nat.le_refl _), rfl, fun l hl => by rw [hl.inj I qx]; exact hx, fun l hl => by rw [hl.inj I qy]; exact hy⟩, ⟨z2, (sb.2 _ D.TIz).trans Z'.ti, ⟨u, u2, (sb.2 _ D.TOz).trans t'⟩, Z'.f1.to fun o q => (sb.2 _ D.i1z).trans q, Z'.f2.to fun o q => (sb.2 _ D.i2z).trans q⟩, fun c hcm => ?_⟩
    have lt : c < s.heap.objs.size := by
      simp only [List.mem_cons, List.not_mem_nil, or_false] at hcm
      rcases hcm with rfl | rfl | rfl | rfl | rfl
      · exact zl
      · exact Heap.lt_size hTI
      · exact Heap.lt_size hTO
      · obtain ⟨_, e, _⟩ := h1.is; exact Heap.lt_size e
      · obtain ⟨_, e, _⟩ := h2.is; exact Heap.lt_size e
    rw [upd_ne (Nat.ne_of_lt lt)]
    exact (hf c hcm).1
  done := by
    intro X hP hw hK hc i pins s σ H E I hf st hg; subst hP hw hK
    obtain ⟨hz, hTI, ⟨x0, y0, hTO⟩, h1, h2⟩ := st; obtain ⟨xs, ys, qx, qy, hend⟩ := hg
    obtain ⟨its, rv, p, _⟩ := qx.inv I; obtain ⟨its2, rv2, p2, _⟩ := qy.inv I
    have l1 := rv.length; have l2 := rv2.length
    have he : its.toArray[i]? = none ∨ its2.toArray[i]? = none := hend.elim (fun q => .inl (by simp; omega)) fun q => .inr (by simp; omega)
    have hTy : s.TypeIs (.ref z) "zip" := ⟨_, hz, rfl⟩
    unfold pyNext
    refine wpAny_bind (wpAny_attempt (wpAny_callSpecial?_slot (name := Str.ofString "__next__") hTy F.slot_zip_next (wpAny_call_entry F.slot_zip_next hTy F.entry_zip_next (zp_end (I.ok.hd hc) D hz hTO ⟨hTI, h1, h2, p, p2⟩ he fun g e hk ⟨o, ho, co⟩ => ?_) (F.args_zip_next_1 _))))
    refine wpAny_bind (wpAny_isInstance (T := "StopIteration") (b := true) ⟨o, ho, co⟩ isSubtype_stop (wpAny_pure ⟨rfl, I.turnedL (t' := s.toks) (ch := [z, TI, TO, i1, i2]) (fun c o hb q => ?_) hf⟩))
    simp only [List.mem_cons, List.not_mem_nil, or_false, not_or] at hb
    exact hk c o hb.1 hb.2.2.1 hb.2.2.2.1 hb.2.2.2.2 q
  self := fun A i s Q E st h => wpAny_pyIter_zip st.1 h
/-! zip(..) itself -/
def itT (k : Bool) : String := if k = true then "tuple_iterator" else "list_iterator"
abbrev pz1 (k : Bool) (h : Heap) (a : Addr) : Heap := h.push { cls := .type (itT k), data := .fields #[.ref a, .int 0 0] }
abbrev pz2 (k1 k2 : Bool) (h : Heap) (a b : Addr) : Heap := (pz1 k1 h a).push { cls := .type (itT k2), data := .fields #[.ref b, .int 0 0] }
abbrev pz3 (k1 k2 : Bool) (h : Heap) (a b : Addr) : Heap := (pz2 k1 k2 h a b).push { cls := .type "tuple", data := .seq #[.ref h.objs.size, .ref (pz1 k1 h a).objs.size] }
abbrev pz4 (k1 k2 : Bool) (h : Heap) (a b : Addr) : Heap := (pz3 k1 k2 h a b).push { cls := .type "tuple", data := .seq #[.none, .none] }
abbrev pz5 (k1 k2 : Bool) (h : Heap) (a b : Addr) : Heap := (pz4 k1 k2 h a b).push { cls := .type "zip", data := .fields #[.none, .bool false, .bool false, .ref (pz2 k1 k2 h a b).objs.size, .ref (pz3 k1 k2 h a b).objs.size] }
theorem zp_new (k1 k2 : Bool) (a b : Addr) (xs ys : Array Value) : Meets (Builtin.«zip.__new__» ⟨[.type "zip", .ref a, .ref b], []⟩) (fun _ R s => Hsq k1 s.heap a xs ∧ Hsq k2 s.heap b ys ∧ R (.ok (.ret (.ref (pz4 k1 k2 s.heap a b).objs.size))) { s with heap := pz5 k1 k2 s.heap a b }) :=
  .of_wp fun prog w A R s h => by
    obtain ⟨hp, g, d, tk, os⟩ := s; obtain ⟨ha, hb, h⟩ := h
    have hsub := sub_zip
    have q1 : Hsq k1 (Shared.heap ⟨hp, g, d, tk, os⟩) a xs := ha
    have q2 : Hsq k2 (Shared.heap ⟨hp.push { cls := .type (itT k1), data := .fields #[.ref a, .int 0 0] }, g, d, tk, os⟩) b ys := Hsq.to hb fun o e => Heap.get?_push_of_some _ e
    cases k1 <;> cases k2
    · replace q1 : Heap.IsList (Shared.heap ⟨hp, g, d, tk, os⟩) a xs := q1; replace q2 : Heap.IsList (Shared.heap ⟨hp.push { cls := .type "list_iterator", data := .fields #[.ref a, .int 0 0] }, g, d, tk, os⟩) b ys := q2
      wp_walk using wpAny_pyIter_list q1, wpAny_pyIter_list q2
      exact ⟨_, rfl, h⟩
    · replace q1 : Heap.IsList (Shared.heap ⟨hp, g, d, tk, os⟩) a xs := q1; replace q2 : Heap.IsTuple (Shared.heap ⟨hp.push { cls := .type "list_iterator", data := .fields #[.ref a, .int 0 0] }, g, d, tk, os⟩) b ys := q2
      wp_walk using wpAny_pyIter_list q1, wpAny_pyIter_tuple q2
      exact ⟨_, rfl, h⟩
    · replace q1 : Heap.IsTuple (Shared.heap ⟨hp, g, d, tk, os⟩) a xs := q1; replace q2 : Heap.IsList (Shared.heap ⟨hp.push { cls := .type "tuple_iterator", data := .fields #[.ref a, .int 0 0] }, g, d, tk, os⟩) b ys := q2
      wp_walk using wpAny_pyIter_tuple q1, wpAny_pyIter_list q2
      exact ⟨_, rfl, h⟩
    · replace q1 : Heap.IsTuple (Shared.heap ⟨hp, g, d, tk, os⟩) a xs := q1; replace q2 : Heap.IsTuple (Shared.heap ⟨hp.push { cls := .type "tuple_iterator", data := .fields #[.ref a, .int 0 0] }, g, d, tk, os⟩) b ys := q2
      wp_walk using wpAny_pyIter_tuple q1, wpAny_pyIter_tuple q2
      exact ⟨_, rfl, h⟩
theorem zp_call {P : Program} {w : World} {A : Around} {E : Value → Shared → Prop} {s : Shared} {k1 k2 : Bool} {a b : Addr} {xs ys : Array Value} {Q : Value → Shared → Prop} (ha : Hsq k1 s.heap a xs) (hb : Hsq k2 s.heap b ys)
    (h : ∀ g, IsZip g (s.heap.objs.size + 4) (s.heap.objs.size + 2) (s.heap.objs.size + 3) .none → IsPair g (s.heap.objs.size + 2) (.ref s.heap.objs.size) (.ref (s.heap.objs.size + 1)) → IsPair g (s.heap.objs.size + 3) .none .none → Hit k1 g s.heap.objs.size a 0 → Hit k2 g (s.heap.objs.size + 1) b 0 → (∀ c o, s.heap.get? c = some o → g.get? c = some o) → Q (.ref (s.heap.objs.size + 4)) { s with heap := g }) :
    wpAny (model P w) A (call (.type "zip") [.ref a, .ref b]) Q E s := by
  refine callType_new F.called_zip (by decide) (F.typeCall_zip_2 _ _) (F.newCall_zip_2 _ _) (fun obj => F.args_object_init_3 obj _ _) F.entry_zip_new (zp_new k1 k2 a b xs ys) ⟨ha, hb, ?_⟩
  have z1 : (pz1 k1 s.heap a).objs.size = s.heap.objs.size + 1 := Heap.size_push ..
  have z2 : (pz2 k1 k2 s.heap a b).objs.size = s.heap.objs.size + 2 := by rw [Heap.size_push, z1]
  have z3 : (pz3 k1 k2 s.heap a b).objs.size = s.heap.objs.size + 3 := by rw [Heap.size_push, z2]
  have z4 : (pz4 k1 k2 s.heap a b).objs.size = s.heap.objs.size + 4 := by rw [Heap.size_push, z3]
  have up5 : ∀ c o, (pz4 k1 k2 s.heap a b).get? c = some o → (pz5 k1 k2 s.heap a b).get? c = some o := fun c o e => Heap.get?_push_of_some _ e
  have up4 : ∀ c o, (pz3 k1 k2 s.heap a b).get? c = some o → (pz5 k1 k2 s.heap a b).get? c = some o := fun c o e => up5 c o (Heap.get?_push_of_some _ e)
  have up3 : ∀ c o, (pz2 k1 k2 s.heap a b).get? c = some o → (pz5 k1 k2 s.heap a b).get? c = some o := fun c o e => up4 c o (Heap.get?_push_of_some _ e)
  have up2 : ∀ c o, (pz1 k1 s.heap a).get? c = some o → (pz5 k1 k2 s.heap a b).get? c = some o := fun c o e => up3 c o (Heap.get?_push_of_some _ e)
  have g5 : (pz5 k1 k2 s.heap a b).get? (pz4 k1 k2 s.heap a b).objs.size = some _ := Heap.get?_push_size _ rfl
  have g4 := up5 (pz3 k1 k2 s.heap a b).objs.size _ (Heap.get?_push_size _ rfl)
  have g3 := up4 (pz2 k1 k2 s.heap a b).objs.size _ (Heap.get?_push_size _ rfl)
  have g2 := up3 (pz1 k1 s.heap a).objs.size _ (Heap.get?_push_size _ rfl)
  have g1 := up2 s.heap.objs.size _ (Heap.get?_push_size _ rfl)
  have i1 : Hit k1 (pz5 k1 k2 s.heap a b) s.heap.objs.size a 0 := by cases k1 <;> exact ⟨_, g1, rfl, rfl⟩
  have i2 : Hit k2 (pz5 k1 k2 s.heap a b) (pz1 k1 s.heap a).objs.size b 0 := by cases k2 <;> exact ⟨_, g2, rfl, rfl⟩
  show _ ∧ _
  refine ⟨⟨_, g5, rfl⟩, ?_⟩
  rw [z2, z3, z4] at g5
  rw [z1, z2] at g3
  rw [z3] at g4
  rw [z1] at i2
  rw [z4]
  exact h _ g5 g3 g4 i1 i2 fun c o e => up2 c o (Heap.get?_push_of_some _ e)
def iZipG (K : PySem.W.Frag) (ta : TA) : TI := fun σ H R => ta σ H fun vs H1 => ∃ k1 k2 a b xs ys, vs = [.ref a, .ref b] ∧ SqK k1 K H1 a xs ∧ SqK k2 K H1 b ys ∧ R (ItzG k1 k2 K a b) H1
theorem fresh5 {X : Cx} {pins : List (Addr × Obj)} {σ : L2.St} {H : Hp} {s : Shared} (I : Inv X pins σ H s) : ∀ c, c ∈ [s.heap.objs.size + 4, s.heap.objs.size + 2, s.heap.objs.size + 3, s.heap.objs.size, s.heap.objs.size + 1] → FpOk X pins H c := fun c hc => by
  have le : s.heap.objs.size ≤ c := by
    simp only [List.mem_cons, List.not_mem_nil, or_false] at hc
    rcases hc with rfl | rfl | rfl | rfl | rfl <;> first | exact Nat.le_refl _ | exact Nat.le_add_right _ _
  exact I.fpOk le (I.hok.fresh le)
theorem pi_zp {X : Cx} {e e2 : Expr} {ta : TA} {p pos tpos : Pos} {elts : List Expr} {kk : Nat} (hg : Gl X "zip") (hm : X.mg "zip" = none) (ha : PA X [e, e2] ta)
    (hs : starEach [e, e2] X.env = (false, eval e X.env) :: starEach [e2] X.env) (hpl : (backTo pos (starEach [e2] X.env)).any (·.1) = false) : PI X (.Tuple elts kk tpos) (.Call (.Name "zip" p) [e, e2] [] pos) (iZipG X.K ta) := by
  refine ⟨fun pins s σ H R I h => ?_⟩
  refine Call_ (ld_blt I hg hm PyProof.Rows.boot_zip (PyProof.Rows.callWith_type1 (thn (ha.run pos pins s σ H _ I h) fun us s1 ⟨vs, H1, I1, r1, k1, k2, a, b, xs, ys, ex, qx, qy, q⟩ => ?_) hs hpl))
  subst ex
  cases r1 with
  | cons r rr =>
    cases rr with
    | cons r' rr =>
      cases rr; cases r; cases r'
      obtain ⟨its, rv, p1, _⟩ := qx.inv I1; obtain ⟨its2, rv2, p2, _⟩ := qy.inv I1
      obtain ⟨o1, e1⟩ := p1.is; obtain ⟨o2, e2⟩ := p2.is
      refine zp_call p1 p2 fun g hz hTI hTO f1 f2 hk => wpAny_pyIter_zip hz ?_
      exact ⟨s1.heap.objs.size + 4, [s1.heap.objs.size + 4, s1.heap.objs.size + 2, s1.heap.objs.size + 3, s1.heap.objs.size, s1.heap.objs.size + 1], _, _, H1, rfl, I1.kept (t' := s1.toks) hk, turn_zp (PySem.W.ktu_apart s1.heap.objs.size a b (Heap.lt_size e1) (Heap.lt_size e2)), ⟨hz, hTI, ⟨_, _, hTO⟩, f1, f2⟩, fresh5 I1, q⟩
/-! dict(zip(..)) -/
theorem arg_zp {prog : Program} {w : World} (k1 k2 : Bool) (z TI TO i1 i2 a b : Addr) (D : ZipApart z TI TO i1 i2 a b) (xs ys : Array Value) :
    PairArg prog w "zip" z [z, TI, TO, i1, i2, a, b] [z, TO, i1, i2] (min xs.size ys.size) (fun i k v => xs[i]? = some k ∧ ys[i]? = some v) (fun h => IsZip h z TI TO .none ∧ (∃ u v, IsPair h TO u v) ∧ Zp k1 k2 h z TI i1 i2 a b 0 xs ys) where
  type := fun s ok => ⟨_, ok.1, rfl⟩
  notDict := by decide
  keep := fun h h' ⟨hz, ⟨u, v, hT⟩, Z⟩ hk => ⟨hk _ _ hz, ⟨u, v, hk _ _ hT⟩, Z.to (c := z) fun c o _ => hk c o⟩
  there := fun h ⟨hz, ⟨u, v, hT⟩, Z⟩ c hc => by
    obtain ⟨o1, e1, _⟩ := Z.f1.is; obtain ⟨o2, e2, _⟩ := Z.f2.is
    simp only [List.mem_cons, List.not_mem_nil, or_false] at hc
    rcases hc with rfl | rfl | rfl | rfl | rfl | rfl | rfl
    · exact ⟨_, hz⟩
    · exact ⟨_, Z.ti⟩
    · exact ⟨_, hT⟩
    · exact ⟨_, e1⟩
    · exact ⟨_, e2⟩
    · exact Z.s1.is
    · exact Z.s2.is
  sub := fun c hc => by
    simp only [List.mem_cons, List.not_mem_nil, or_false] at hc ⊢
    rcases hc with h | h | h | h <;> simp [h]
  noKeys := fun A s Q E hA ok h => getAttrOr_miss_zip ok.1 rfl rfl rfl zip_no_keys (by decide +kernel) hA h
  iter := fun A s d Q E hA ok hd hdf h => by
    obtain ⟨hz, ⟨u, v, hTO⟩, Z⟩ := ok
    simp only [List.mem_cons, List.not_mem_nil, or_false, not_or] at hdf
    obtain ⟨dz, dI, dO, d1, d2, da, db⟩ := hdf
    refine wpAny_pyIter_zip hz (h z [z, TO, i1, i2] (fun i h => Zp k1 k2 h z TI i1 i2 a b i xs ys ∧ ((IsZip h z TI TO .none ∧ ∃ u v, IsPair h TO u v) ∨ ∃ T f oT, IsZipHeld h z TI TO T f ∧ h.get? T = some oT ∧ T ≠ z ∧ T ≠ i1 ∧ T ≠ i2 ∧ T ≠ d)) s.heap s.toks ?_ ⟨Z, .inl ⟨hz, u, v, hTO⟩⟩ (fun _ _ e => e) fun c hc => .inl hc)
    exact {
      off := fun hm => by
        simp only [List.mem_cons, List.not_mem_nil, or_false] at hm
        rcases hm with e | e | e | e
        · exact dz e
        · exact dO e
        · exact d1 e
        · exact d2 e
      frame := fun i h₁ h₂ ⟨Z, st⟩ hk => by
        refine ⟨Z.to (c := z) fun c o hc => hk c o ?_, ?_⟩
        · rcases hc with rfl | rfl | rfl | rfl | rfl
          · exact Ne.symm dI
          · exact Ne.symm d1
          · exact Ne.symm d2
          · exact Ne.symm da
          · exact Ne.symm db
        · rcases st with ⟨hz, u, v, hT⟩ | ⟨T, f, oT, hz, hT, r1, r2, r3, r4⟩
          · exact .inl ⟨hk _ _ (Ne.symm dz) hz, u, v, hk _ _ (Ne.symm dO) hT⟩
          · exact .inr ⟨T, f, oT, hk _ _ (Ne.symm dz) hz, hk _ _ r4 hT, r1, r2, r3, r4⟩
      item := fun i s₁ Q₁ E₁ hi ⟨Z, st⟩ hds hQ => by
        have ex := Array.getElem?_eq_getElem (Nat.lt_of_lt_of_le hi (Nat.min_le_left xs.size ys.size))
        have ey := Array.getElem?_eq_getElem (Nat.lt_of_lt_of_le hi (Nat.min_le_right xs.size ys.size))
        have lt : ∀ {c o}, s₁.heap.get? c = some o → s₁.heap.objs.size ≠ c := fun e => Nat.ne_of_gt (Heap.lt_size e)
        obtain ⟨o1, e1, _⟩ := Z.f1.is; obtain ⟨o2, e2, _⟩ := Z.f2.is
        unfold pyNext
        rcases st with ⟨hz, u, v, hTO⟩ | ⟨T, f, oT, hz, hT, r1, r2, r3, r4⟩
        · have hTy : s₁.TypeIs (.ref z) "zip" := ⟨_, hz, rfl⟩
          refine wpAny_bind (wpAny_attempt (wpAny_callSpecial?_slot (name := Str.ofString "__next__") hTy F.slot_zip_next (wpAny_call_entry F.slot_zip_next hTy F.entry_zip_next (zp_item D hz hTO Z ex ey fun g z' t' Z' hp hs hk => wpAny_pure ?_) (F.args_zip_next_1 _))))
          refine hQ s₁.heap.objs.size _ _ g s₁.toks ⟨ex, ey⟩ (.inl ⟨_, hp, rfl, _, rfl⟩) ⟨Z', .inr ⟨s₁.heap.objs.size, _, _, z', hp, lt hz, lt e1, lt e2, Nat.ne_of_gt hds⟩⟩ fun c o hc e => ?_
          simp only [List.mem_cons, List.not_mem_nil, or_false, not_or] at hc
          exact hk c o hc.1 hc.2.1 hc.2.2.1 hc.2.2.2 e
        · have hTy : s₁.TypeIs (.ref z) "zip" := ⟨_, hz, rfl⟩
          refine wpAny_bind (wpAny_attempt (wpAny_callSpecial?_slot (name := Str.ofString "__next__") hTy F.slot_zip_next (wpAny_call_entry F.slot_zip_next hTy F.entry_zip_next (zh_item D hz hT Z ex ey fun g z' Z' hp hs hk => wpAny_pure ?_) (F.args_zip_next_1 _))))
          refine hQ s₁.heap.objs.size _ _ g s₁.toks ⟨ex, ey⟩ (.inl ⟨_, hp, rfl, _, rfl⟩) ⟨Z', .inr ⟨T, true, oT, z', hk _ _ r1 r2 r3 hT, r1, r2, r3, r4⟩⟩ fun c o hc e => ?_
          simp only [List.mem_cons, List.not_mem_nil, or_false, not_or] at hc
          exact hk c o hc.1 hc.2.2.1 hc.2.2.2 e
      done := fun s₁ Q₁ E₁ ⟨Z, st⟩ hQ => by
        have he : xs[min xs.size ys.size]? = none ∨ ys[min xs.size ys.size]? = none := by
          rcases Nat.le_total xs.size ys.size with h | h
          · exact .inl (Array.getElem?_eq_none (by rw [Nat.min_eq_left h]; exact Nat.le_refl _))
          · exact .inr (Array.getElem?_eq_none (by rw [Nat.min_eq_right h]; exact Nat.le_refl _))
        unfold pyNext
        rcases st with ⟨hz, u, v, hTO⟩ | ⟨T, f, oT, hz, hT, r1, r2, r3, r4⟩
        · have hTy : s₁.TypeIs (.ref z) "zip" := ⟨_, hz, rfl⟩
          refine wpAny_bind (wpAny_attempt (wpAny_callSpecial?_slot (name := Str.ofString "__next__") hTy F.slot_zip_next (wpAny_call_entry F.slot_zip_next hTy F.entry_zip_next (zp_end hA D hz hTO Z he fun g e hk ⟨o, ho, co⟩ => ?_) (F.args_zip_next_1 _))))
          refine wpAny_bind (wpAny_isInstance (T := "StopIteration") (b := true) ⟨o, ho, co⟩ isSubtype_stop (wpAny_pure (hQ g s₁.toks fun c o hc e => ?_)))
          simp only [List.mem_cons, List.not_mem_nil, or_false, not_or] at hc
          exact hk c o hc.1 hc.2.1 hc.2.2.1 hc.2.2.2 e
        · have hTy : s₁.TypeIs (.ref z) "zip" := ⟨_, hz, rfl⟩
          refine wpAny_bind (wpAny_attempt (wpAny_callSpecial?_slot (name := Str.ofString "__next__") hTy F.slot_zip_next (wpAny_call_entry F.slot_zip_next hTy F.entry_zip_next (zh_end hA D hz hT Z he fun g e hk ⟨o, ho, co⟩ => ?_) (F.args_zip_next_1 _))))
          refine wpAny_bind (wpAny_isInstance (T := "StopIteration") (b := true) ⟨o, ho, co⟩ isSubtype_stop (wpAny_pure (hQ g s₁.toks fun c o hc e => ?_)))
          simp only [List.mem_cons, List.not_mem_nil, or_false, not_or] at hc
          exact hk c o hc.1 hc.2.2.1 hc.2.2.2 e }
end Ir
end
section
set_option Elab.async false
set_option linter.all false
set_option maxRecDepth 100000
namespace Ir
open PySem PySem.Spec PyProof.Rows L2

def guard (b : Itb) (ds : List D) (s : Sto) : Bool := match b.items s with
  | some es => deqs es ds
  | none => false
theorem guard_ok {b : Itb} {ds : List D} {s : Sto} (h : guard b ds s = true) : b.items s = some ds := by
  unfold guard at h
  cases q : b.items s with
  | none => rw [q] at h; cases h
  | some es => rw [q] at h; rw [deqs_eq es ds h]
/-- a target of a loop: one slot, or a tuple of slots -/
inductive Tg where
  | one (i : Nat) | many (is : List Nat)
def setAll {α : Type} (σ : List (Option α)) : List Nat → List α → List (Option α)
  | i :: is, v :: vs => setAll (σ.set i (some v)) is vs
  | _, _ => σ
def Tg.put (t : Tg) (env : Ev) (d : D) : Option Ev := match t, d with
  | .one i, d => some (env.set i (some d))
  | .many is, .tup ds => if ds.length = is.length then some (setAll env is ds) else none
  | .many is, .lst ds => if ds.length = is.length then some (setAll env is ds) else none
  | _, _ => none
def gAll : List Nat → TGs
  | [] => gNil
  | i :: is => gCons (gName i) (gAll is)
def Tg.g (K : PySem.W.Frag) : Tg → TG
  | .one i => gName i
  | .many is => gUnp K is.length (gAll is)
def Tg.slots : Tg → List Nat
  | .one i => [i]
  | .many is => is
theorem setAll_length {α : Type} : ∀ (is : List Nat) (vs : List α) (σ : List (Option α)), (setAll σ is vs).length = σ.length
  | [], vs, σ => by cases vs <;> rfl
  | i :: is, [], σ => rfl
  | i :: is, v :: vs, σ => by
    simp only [setAll]
    rw [setAll_length is vs, List.length_set]
theorem gAll_ok : ∀ (is : List Nat) (vs : List V) (σ : L2.St) (H : Hp) (Q : L2.St → Hp → Prop), vs.length = is.length → Q (setAll σ is vs) H → gAll is vs σ H Q
  | [], [], σ, H, Q, _, h => ⟨rfl, h⟩
  | i :: is, v :: vs, σ, H, Q, hl, h => ⟨v, vs, rfl, gAll_ok is vs _ H Q (by simpa using hl) h⟩
  | [], v :: vs, _, _, _, hl, _ => by simp at hl
  | i :: is, [], _, _, _, hl, _ => by simp at hl
theorem re.setAll {c : Rc} {w : Wd} : ∀ (is : List Nat) (ds : List D) (vs : List V) {env : Ev} {σ : L2.St}, re c w env σ → rvs c w ds vs → re c w (setAll env is ds) (Ir.setAll σ is vs)
  | [], ds, vs, env, σ, h, r => by cases ds <;> cases vs <;> exact h
  | i :: is, [], vs, env, σ, h, r => by simp only [rvs] at r; subst r; exact h
  | i :: is, d :: ds, vs, env, σ, h, r => by
    simp only [rvs] at r
    obtain ⟨v, r', rfl, h1, h2⟩ := r
    exact re.setAll is ds r' (h.set h1 i) h2
/-- how a target's put is the machine's -/
theorem put_ok {c : Rc} {w : Wd} {t : Tg} {env env' : Ev} {σ : L2.St} {d : D} {v : V} {H : Hp} {Q : L2.St → Hp → Prop} (he : re c w env σ) (hd : rv c w d v) (h : t.put env d = some env') (hw : w.H = H) (hq : ∀ σ', re c w env' σ' → (∃ vs, σ' = setAll σ t.slots vs ∧ vs.length = t.slots.length) → Q σ' H) : t.g c.K v σ H Q := by
  subst hw
  cases t with
  | one i =>
    cases h
    exact hq _ (he.set hd i) ⟨[v], rfl, rfl⟩
  | many is =>
    cases d <;> simp only [Tg.put, reduceCtorEq] at h
    · rename_i ds
      split at h
      · rename_i hl
        cases h
        simp only [rv] at hd
        obtain ⟨a, vs, rfl, h1, h2⟩ := hd
        have hl' : vs.length = is.length := by rw [← h2.length]; exact hl
        exact ⟨a, vs, rfl, .inl h1.sq, hl', gAll_ok is vs σ w.H Q hl' (hq _ (he.setAll is ds vs h2) ⟨vs, rfl, hl'⟩)⟩
      · cases h
    · rename_i ds
      split at h
      · rename_i hl
        cases h
        simp only [rv] at hd
        obtain ⟨a, vs, rfl, h1, h2⟩ := hd
        have hl' : vs.length = is.length := by rw [← h2.length]; exact hl
        exact ⟨a, vs, rfl, .inr (.inl (.of h1.2)), hl', gAll_ok is vs σ w.H Q hl' (hq _ (he.setAll is ds vs h2) ⟨vs, rfl, hl'⟩)⟩
      · cases h
section
variable {X : Cx} {c : Rc} {T : Tab} {W : WX} {a b e o tg : Expr} {es : List Expr} {fa fb fc : Fe} {fs : Fs} {ft fu : Ft} {pos : Pos} {cl : Nat → Addr} {xn : Xn} {f g : Fst} {st : Stmt}
theorem posti.ext {σ : L2.St} {w w' : Wd} {r : R Itb} {Q : It → Hp → Prop} (h : posti c W σ w r Q) (e : Ext w w') : posti c W σ w' r Q := by
  cases r with
  | ok b s => exact fun w2 J e2 => h w2 J (e.trans e2)
  | ex k ds s => exact fun w2 dx e2 => h w2 dx (e.trans e2)
  | bad => exact h
theorem post_bindi {σ : L2.St} {w : Wd} {f : R D} {g : D → Sto → R Itb} {Q : It → Hp → Prop} (h : posti c W σ w (f.bind g) Q) :
    post c W σ w f fun v H1 => ∃ (w' : Wd) (d : D) (s' : Sto), w'.H = H1 ∧ Ext w w' ∧ Rs c w' s' ∧ rv c w' d v ∧ posti c W σ w' (g d s') Q := by
  cases f with
  | ok d s => exact fun w' v e r q => ⟨w', d, s, rfl, e, r, q, posti.ext (r := g d s) h e⟩
  | ex k ds s => exact h
  | bad => exact h
theorem posts_bindi {σ : L2.St} {w : Wd} {f : R (List D)} {g : List D → Sto → R Itb} {Q : It → Hp → Prop} (h : posti c W σ w (f.bind g) Q) :
    posts c W σ w f fun v H1 => ∃ (w' : Wd) (ds : List D) (s' : Sto), w'.H = H1 ∧ Ext w w' ∧ Rs c w' s' ∧ rvs c w' ds v ∧ posti c W σ w' (g ds s') Q := by
  cases f with
  | ok d s => exact fun w' v e r q => ⟨w', d, s, rfl, e, r, q, posti.ext (r := g d s) h e⟩
  | ex k ds s => exact h
  | bad => exact h
theorem p_seq (hk : c.K = X.K) (ha : PE X e (rd c W fa)) : PI X tg e (rdi c W (iSeqC fa)) := by
  refine ⟨fun pins s σ H R I ⟨w, env, st, hw, hs, he, hp⟩ => ?_⟩
  refine thn (ha.run pins s σ H _ I ⟨w, env, st, hw, hs, he, post_bindi hp⟩) fun v s1 ⟨x, H1, I1, r1, w1, d, st1, e1, x1, rs1, q1, p1⟩ => ?_
  subst e1
  split at p1
  · rename_i hq
    by_cases hstr : ∃ z, d = .str z
    · obtain ⟨z, rfl⟩ := hstr
      have q := p1 w1 (Its z) (.refl w1) rs1 ig_str
      simp only [rv] at q1
      subst q1
      obtain ⟨t, rfl⟩ := r1
      cases ha : z.cps.all (· < 128)
      · exact wpAny_pyIter_wide ha (pi_one (tk := s1.toks) I1 _ (turn_str _ z t "str_iterator" (.inr rfl)) ⟨_, Heap.get?_push_size _ rfl, rfl, rfl⟩ q)
      · exact wpAny_pyIter_ascii ha (pi_one (tk := s1.toks) I1 _ (turn_str _ z t "str_ascii_iterator" (.inl rfl)) ⟨_, Heap.get?_push_size _ rfl, rfl, rfl⟩ q)
    · have hq : (seqOf st1 d).isSome = true := by
        unfold isSeq at hq
        split at hq
        · exact (hstr ⟨_, rfl⟩).elim
        · exact hq
      have hit : (Itb.seq d).items = fun s => seqOf s d := by
        funext s'
        cases d <;> first | rfl | exact (hstr ⟨_, rfl⟩).elim
      cases hl : isLst st1 d with
      | true =>
        have hdat := datum_lst rs1 q1 hl
        obtain ⟨a, ds, vs, rfl, h1, h2, h3⟩ := isLst_view rs1 q1 hl
        have q := p1 w1 (Itl c.K a) (.refl w1) rs1 (by rw [hit]; exact ig_list hdat q1)
        rw [hk] at q h2
        cases r1
        obtain ⟨its, rv, p, hz⟩ := I1.list h2
        refine wpAny_pyIter_list p.isList ?_
        refine ⟨s1.heap.objs.size, [s1.heap.objs.size], _, _, _, rfl, I1.kept (t' := s1.toks) fun b o e => Heap.get?_push_of_some _ e, turn_list a _, ⟨_, Heap.get?_push_size _ rfl, rfl, rfl⟩, fun b hb => ?_, q⟩
        have e : b = s1.heap.objs.size := by simpa using hb
        subst e
        exact I1.fpOk (Nat.le_refl _) (I1.hok.fresh (Nat.le_refl _))
      | false =>
        have ht : isTup st1 d = true := by
          unfold seqOf at hq
          unfold isLst at hl
          unfold isTup
          cases hlk : look st1 d <;> rw [hlk] at hq hl <;> first | rfl | exact absurd (show true = false from hl) (by decide) | exact absurd (show false = true from hq) (by decide)
        obtain ⟨ds0, rfl⟩ := datum_tup rs1 q1 ht
        obtain ⟨a, ds, vs, rfl, h1, h2, h3⟩ := isTup_view rs1 q1 ht
        have q := p1 w1 (Itt c.K a) (.refl w1) rs1 (by rw [hit]; exact ig_tup q1)
        rw [hk] at q h2
        cases r1
        obtain ⟨its, rv, p, hz⟩ := I1.tuple h2
        refine wpAny_pyIter_tuple (show s1.heap.IsTuple a its.toArray from p) ?_
        refine ⟨s1.heap.objs.size, [s1.heap.objs.size], _, _, _, rfl, I1.kept (t' := s1.toks) fun b o e => Heap.get?_push_of_some _ e, turn_tuple a _, ⟨_, Heap.get?_push_size _ rfl, rfl, rfl⟩, fun b hb => ?_, q⟩
        have e : b = s1.heap.objs.size := by simpa using hb
        subst e
        exact I1.fpOk (Nat.le_refl _) (I1.hok.fresh (Nat.le_refl _))
  · exact p1.elim
theorem rOk_ok {i : Int} (h : rOk i = true) : -(2 ^ 62) ≤ i ∧ i < 2 ^ 62 := by
  simp only [rOk, Bool.and_eq_true, decide_eq_true_eq] at h
  exact h
theorem p_rng1 {p : Pos} (hg : Gl X "range") (hm : X.mg "range" = none) (ha : PA X [a] (rda c W fs)) (hs : starEach [a] X.env = [(false, eval a X.env)]) : PI X tg (.Call (.Name "range" p) [a] [] pos) (rdi c W (iRng1' fs)) := (pi_range1 hg hm ha hs).imp fun σ H R ⟨w, env, st, hw, hs, he, hp⟩ => by
  subst hw
  refine ⟨w, env, st, rfl, hs, he, (posts_bindi hp).mono fun vs H1 ⟨w1, ds, s1, e1, x1, r1, q1, p1⟩ => ?_⟩
  subst e1
  split at p1
  · obtain ⟨v, rfl, h1⟩ := rvs1 q1
    simp only [rv] at h1
    subst h1
    split at p1
    · rename_i hr
      obtain ⟨h1, h2⟩ := rOk_ok hr
      exact ⟨_, rfl, h1, h2, p1 w1 _ (.refl w1) r1 ig_rng1⟩
    · exact p1.elim
  · exact p1.elim
theorem p_rng2 {p : Pos} (hg : Gl X "range") (hm : X.mg "range" = none) (ha : PA X [a, b] (rda c W fs)) (hs : starEach [a, b] X.env = [(false, eval a X.env), (false, eval b X.env)]) (hs2 : starEach [b] X.env = [(false, eval b X.env)]) : PI X tg (.Call (.Name "range" p) [a, b] [] pos) (rdi c W (iRng2' fs)) := (pi_range2 hg hm ha hs hs2).imp fun σ H R ⟨w, env, st, hw, hs, he, hp⟩ => by
  subst hw
  refine ⟨w, env, st, rfl, hs, he, (posts_bindi hp).mono fun vs H1 ⟨w1, ds, s1, e1, x1, r1, q1, p1⟩ => ?_⟩
  subst e1
  split at p1
  · obtain ⟨v, u, rfl, h1, h2⟩ := rvs2 q1
    simp only [rv] at h1 h2
    subst h1 h2
    split at p1
    · rename_i hr
      simp only [Bool.and_eq_true] at hr
      obtain ⟨h1, h2⟩ := rOk_ok hr.1
      obtain ⟨h3, h4⟩ := rOk_ok hr.2
      exact ⟨_, _, rfl, ⟨h1, h2, h3, h4⟩, p1 w1 _ (.refl w1) r1 ig_rng1⟩
    · exact p1.elim
  · exact p1.elim
theorem p_rng3 {d : Expr} {p : Pos} (hg : Gl X "range") (hm : X.mg "range" = none) (ha : PA X [a, b, d] (rda c W fs)) (hs : starEach [a, b, d] X.env = (false, eval a X.env) :: starEach [b, d] X.env) (hpl : (backTo pos (starEach [b, d] X.env)).any (·.1) = false) : PI X tg (.Call (.Name "range" p) [a, b, d] [] pos) (rdi c W (iRng3' fs)) := (pi_range3 hg hm ha hs hpl).imp fun σ H R ⟨w, env, st, hw, hs, he, hp⟩ => by
  subst hw
  refine ⟨w, env, st, rfl, hs, he, (posts_bindi hp).mono fun vs H1 ⟨w1, ds, s1, e1, x1, r1, q1, p1⟩ => ?_⟩
  subst e1
  split at p1
  · simp only [rvs] at q1
    obtain ⟨v, r, rfl, h1, u, r', rfl, h2, z, r'', rfl, h3, rfl⟩ := q1
    simp only [rv] at h1 h2 h3
    subst h1 h2 h3
    split at p1
    · rename_i hr
      simp only [Bool.and_eq_true, decide_eq_true_eq] at hr
      obtain ⟨⟨⟨h1, h2⟩, h3⟩, h4⟩ := hr
      exact ⟨_, _, _, _, rfl, ⟨h1, h2, h3, (Int.toNat_of_nonneg h4).symm⟩, p1 w1 _ (.refl w1) r1 ig_rngC⟩
    · exact p1.elim
  · exact p1.elim
theorem p_enum {p tpos : Pos} {elts : List Expr} {kk : Nat} (hk : c.K = X.K) (hg : Gl X "enumerate") (hm : X.mg "enumerate" = none) (ha : PA X [e] (rda c W fs)) (hs : starEach [e] X.env = [(false, eval e X.env)]) : PI X (.Tuple elts kk tpos) (.Call (.Name "enumerate" p) [e] [] pos) (rdi c W (iEnum' fs)) := (pi_enumA hg hm ha hs).imp fun σ H R ⟨w, env, st, hw, hs, he, hp⟩ => by
  subst hw
  refine ⟨w, env, st, rfl, hs, he, (posts_bindi hp).mono fun vs H1 ⟨w1, ds, s1, e1, x1, r1, q1, p1⟩ => ?_⟩
  subst e1
  split at p1
  · obtain ⟨v, rfl, h1⟩ := rvs1 q1
    split at p1
    · rename_i hl
      rw [Bool.or_eq_true] at hl
      rcases hl with hl | hl
      · have hdat := datum_lst r1 h1 hl
        obtain ⟨a, ds, vs, rfl, h2, h3, h4⟩ := isLst_view r1 h1 hl
        exact ⟨a, vs, rfl, .inl ⟨hk ▸ h3, hk ▸ p1 w1 _ (.refl w1) r1 (ig_enum hdat h1)⟩⟩
      · obtain ⟨ds0, rfl⟩ := datum_tup r1 h1 hl
        obtain ⟨a, ds, vs, rfl, h2, h3, h4⟩ := isTup_view r1 h1 hl
        exact ⟨a, vs, rfl, .inr ⟨hk ▸ h3, hk ▸ p1 w1 _ (.refl w1) r1 (ig_enumT h1)⟩⟩
    · exact p1.elim
  · exact p1.elim
/-- a list's or a tuple's datum -/
def SqD (k : Bool) (d : D) : Prop := if k = true then ∃ ds, d = .tup ds else ((∃ ds, d = .lst ds) ∨ (∃ ds, d = .klst ds)) ∨ ∃ n, d = .ref n
theorem sqd_any {k : Bool} {w : Wd} {s : Sto} {d : D} {a : Addr} {ds : List D} (hd : SqD k d) (h : rv c w d (.ref a)) (hs : Rs c w s) (q : seqOf s d = some ds) : ∃ vs, SqK k c.K w.H a vs ∧ rvs c w ds vs := by
  cases k
  · exact lst_any hd h hs q
  · obtain ⟨d0, e⟩ := hd
    exact tup_any e h q
theorem sqd_of {w : Wd} {s : Sto} {d : D} {v : V} (hs : Rs c w s) (h : rv c w d v) (l : (isLst s d || isTup s d) = true) : ∃ k a ds vs, v = .ref a ∧ SqD k d ∧ seqOf s d = some ds ∧ SqK k c.K w.H a vs ∧ rvs c w ds vs := by
  rw [Bool.or_eq_true] at l
  rcases l with l | l
  · obtain ⟨a, ds, vs, e, g2, g3, g4⟩ := isLst_view hs h l
    exact ⟨false, a, ds, vs, e, datum_lst hs h l, g2, g3, g4⟩
  · obtain ⟨a, ds, vs, e, g2, g3, g4⟩ := isTup_view hs h l
    exact ⟨true, a, ds, vs, e, datum_tup hs h l, g2, g3, g4⟩
theorem ig_zp {w0 : Wd} {d e : D} {a b : Addr} {k1 k2 : Bool} (hd : SqD k1 d) (he : SqD k2 e) (h : rv c w0 d (.ref a)) (h' : rv c w0 e (.ref b)) : ItG c (ItzG k1 k2 c.K a b) w0 (Itb.zip d e).items where
  go := fun w s ds i ex hs q hi => by
    obtain ⟨zs, ys, q1, q2, rfl⟩ := zip_items q
    obtain ⟨vs, h1, h2⟩ := sqd_any hd (rv.mono ex _ _ h) hs q1
    obtain ⟨us, g1, g2⟩ := sqd_any he (rv.mono ex _ _ h') hs q2
    obtain ⟨z, y, e1, e2, _⟩ := zip_get hi
    obtain ⟨v, h3, _⟩ := h2.get i _ e1
    obtain ⟨u, g3, _⟩ := g2.get i _ e2
    exact ⟨vs, us, v, u, h1, g1, h3, g3⟩
  stop := fun w s ds ex hs q => by
    obtain ⟨zs, ys, q1, q2, rfl⟩ := zip_items q
    obtain ⟨vs, h1, h2⟩ := sqd_any hd (rv.mono ex _ _ h) hs q1
    obtain ⟨us, g1, g2⟩ := sqd_any he (rv.mono ex _ _ h') hs q2
    refine ⟨vs, us, h1, g1, ?_⟩
    rw [List.length_map, List.length_zip, ← h2.length, ← g2.length]
    omega
  yld := fun w s ds i x H' ex hs q hi y => by
    obtain ⟨zs, ys, q1, q2, rfl⟩ := zip_items q
    obtain ⟨vs, h1, h2⟩ := sqd_any hd (rv.mono ex _ _ h) hs q1
    obtain ⟨us, g1, g2⟩ := sqd_any he (rv.mono ex _ _ h') hs q2
    obtain ⟨z, y', e1, e2, e3⟩ := zip_get hi
    obtain ⟨v, h3, h4⟩ := h2.get i _ e1
    obtain ⟨u, g3, g4⟩ := g2.get i _ e2
    obtain ⟨T', x1, x2, rfl, hn, eH, y1, y2⟩ := y
    have f1 := y1 vs h1
    rw [h3] at f1
    cases f1
    have f2 := y2 us g1
    rw [g3] at f2
    cases f2
    obtain ⟨w', k1, k2, k3, k4⟩ := pair_new hs hn eH h4 g4
    exact ⟨w', _, k1, k2, k3, e3, k4⟩
theorem p_zip {p tpos : Pos} {elts : List Expr} {kk : Nat} (hk : c.K = X.K) (hg : Gl X "zip") (hm : X.mg "zip" = none) (ha : PA X [a, b] (rda c W fs)) (hs : starEach [a, b] X.env = (false, eval a X.env) :: starEach [b] X.env) (hpl : (backTo pos (starEach [b] X.env)).any (·.1) = false) : PI X (.Tuple elts kk tpos) (.Call (.Name "zip" p) [a, b] [] pos) (rdi c W (iZip' fs)) := (pi_zp hg hm ha hs hpl).imp fun σ H R ⟨w, env, st, hw, hs, he, hp⟩ => by
  subst hw
  refine ⟨w, env, st, rfl, hs, he, (posts_bindi hp).mono fun vs H1 ⟨w1, ds, s1, e1, x1, r1, q1, p1⟩ => ?_⟩
  subst e1
  split at p1
  · obtain ⟨v, u, rfl, h1, h2⟩ := rvs2 q1
    split at p1
    · rename_i hl
      rw [Bool.and_eq_true] at hl
      obtain ⟨k1, a, ds, vs, rfl, d1, g2, g3, g4⟩ := sqd_of r1 h1 hl.1
      obtain ⟨k2, b, es, us, rfl, d2, j2, j3, j4⟩ := sqd_of r1 h2 hl.2
      exact ⟨k1, k2, a, b, vs, us, rfl, hk ▸ g3, hk ▸ j3, hk ▸ p1 w1 _ (.refl w1) r1 (ig_zp d1 d2 h1 h2)⟩
    · exact p1.elim
  · exact p1.elim
/-! ### for -/
def loopS (gd : Sto → Bool) (t : Tg) (body : Fst) : List D → Ev → Sto → SR
  | [], env, s => if gd s = true then .nx env s else .bad
  | d :: ds, env, s => if gd s = true then match t.put env d with
      | some env1 => match body env1 s with
        | .nx env2 s2 => loopS gd t body ds env2 s2
        | .ct env2 s2 => loopS gd t body ds env2 s2
        | .bk env2 s2 => .nx env2 s2
        | r => r
      | none => .bad
    else .bad
def sFor (fi : Fi) (t : Tg) (body : Fst) : Fst := fun env s => (fi env s).st env fun b s => match b.items s with
  | some ds => loopS (guard b ds) t body ds env s
  | none => .bad
theorem sti_bind {σ : L2.St} {w : Wd} {env : Ev} {f : R Itb} {g : Itb → Sto → SR} {E : Ends} (he : re c w env σ) (h : postS c W w (f.st env g) E) :
    posti c W σ w f fun J H1 => ∃ (w' : Wd) (b : Itb) (s' : Sto), w'.H = H1 ∧ Ext w w' ∧ Rs c w' s' ∧ ItG c J w' b.items ∧ postS c W w' (g b s') E := by
  cases f with
  | ok d s => exact fun w' J e r q => ⟨w', d, s, rfl, e, r, q, postS.ext (r := g d s) h e⟩
  | ex k ds s => exact fun w' dx e r x => h w' dx σ e r (he.mono e) x
  | bad => exact h
theorem posti.mono {σ : L2.St} {w : Wd} {r : R Itb} {Q Q' : It → Hp → Prop} (h : posti c W σ w r Q) (k : ∀ v H, Q v H → Q' v H) : posti c W σ w r Q' := by
  cases r with
  | ok d s => exact fun w' v e r q => k _ _ (h w' v e r q)
  | ex k ds s => exact h
  | bad => exact h
theorem s_for {t : Tg} {iter : Expr} {body : List Stmt} {fi : Fi} (hk : c.K = X.K) (hp : PassesOwn (model X.prog X.w) X.A X.env X.xe) (hc : X.calm = true) (hi : PI X tg iter (rdi c W fi)) (hg : PG X tg (t.g X.K)) (hb : PSs X body (rds c W f)) (hs : ∀ x, foldedSetIterable iter X.env x = pure x) :
    PS X (.For tg iter body [] pos) (rds c W (sFor fi t f)) := (ps_for hp hc hi hg hb hs).imp fun E σ H ⟨w, env, s, hw, hs, he, hp⟩ => by
  subst hw
  refine ⟨w, env, s, rfl, hs, he, (sti_bind he hp).mono fun J H1 ⟨w1, b, s1, e1, x1, r1, q1, p1⟩ => ?_⟩
  subst e1
  cases hit : b.items s1 with
  | none => rw [hit] at p1; exact p1.elim
  | some ds =>
    rw [hit] at p1
    have p1 : postS c W w1 (loopS (guard b ds) t f ds env s1) E := p1
    refine ⟨fun i m σ H => ∃ (w2 : Wd) (env2 : Ev) (s2 : Sto), w2.H = H ∧ Ext w1 w2 ∧ Rs c w2 s2 ∧ re c w2 env2 σ ∧ m = ds.length - i ∧ i ≤ ds.length ∧ postS c W w2 (loopS (guard b ds) t f (ds.drop i) env2 s2) E, ⟨ds.length, w1, env, s1, rfl, .refl w1, r1, he.mono x1, by simp, Nat.zero_le _, by rw [List.drop_zero]; exact p1⟩, ?_⟩
    rintro i m σ2 H2 ⟨w2, env2, s2, rfl, x2, r2, he2, rfl, hil, p2⟩
    by_cases hlt : i < ds.length
    · rw [List.drop_eq_getElem_cons hlt] at p2
      simp only [loopS] at p2
      split at p2
      · rename_i hgd
        have hgi := guard_ok hgd
        refine .inr ⟨q1.go w2 s2 ds i x2 r2 hgi hlt, fun σ' H' => ∃ (w3 : Wd) (env3 : Ev) (s3 : Sto), w3.H = H' ∧ Ext w1 w3 ∧ Rs c w3 s3 ∧ re c w3 env3 σ' ∧ postS c W w3 (loopS (guard b ds) t f (ds.drop (i + 1)) env3 s3) E,
          fun σ' H' ⟨w3, env3, s3, g1, g2, g3, g4, g5⟩ => ⟨ds.length - (i + 1), by omega, w3, env3, s3, g1, g2, g3, g4, rfl, hlt, g5⟩, fun x H' y => ?_⟩
        obtain ⟨w3, d, x3, rfl, r3, hd, q3⟩ := q1.yld w2 s2 ds i x H' x2 r2 hgi hlt y
        rw [get_of hlt] at hd
        cases hd
        cases hput : t.put env2 ds[i] with
        | none => rw [hput] at p2; exact p2.elim
        | some env3 =>
          rw [hput] at p2
          refine hk ▸ put_ok (he2.mono x3) q3 hput rfl fun σ3 he3 _ => ⟨w3, env3, s2, rfl, r3, he3, ?_⟩
          have p3 : postS c W w3 (match f env3 s2 with
            | .nx env2 s2 => loopS (guard b ds) t f (ds.drop (i + 1)) env2 s2
            | .ct env2 s2 => loopS (guard b ds) t f (ds.drop (i + 1)) env2 s2
            | .bk env2 s2 => .nx env2 s2
            | r => r) E := postS.ext p2 x3
          cases hf : f env3 s2 <;> rw [hf] at p3
          · exact fun w4 σ4 x4 r4 he4 => ⟨w4, _, _, rfl, (x2.trans x3).trans x4, r4, he4, postS.ext p3 x4⟩
          · exact p3
          · exact p3
          · exact fun w4 σ4 x4 r4 he4 => ⟨w4, _, _, rfl, (x2.trans x3).trans x4, r4, he4, postS.ext p3 x4⟩
          · exact p3
          · exact p3
      · exact p2.elim
    · have hie : i = ds.length := by omega
      subst hie
      rw [List.drop_length] at p2
      simp only [loopS] at p2
      split at p2
      · rename_i hgd
        exact .inl ⟨q1.stop w2 s2 ds x2 r2 (guard_ok hgd), p2 w2 σ2 (.refl w2) r2 he2⟩
      · exact p2.elim
/-! ### while -/
def whileS (t : Ft) (body : Fst) : Nat → Ev → Sto → SR
  | 0, _, _ => .bad
  | n + 1, env, s => (t env s).st env fun b s => if b = true then match body env s with
      | .nx env2 s2 => whileS t body n env2 s2
      | .ct env2 s2 => whileS t body n env2 s2
      | .bk env2 s2 => .nx env2 s2
      | r => r
    else .nx env s
theorem s_while {n : Nat} {body : List Stmt} (hp : PassesOwn (model X.prog X.w) X.A X.env X.xe) (ht : PT X e (rdt c W ft)) (hb : PSs X body (rds c W f)) : PS X (.While e body [] pos) (rds c W (whileS ft f n)) := (ps_while hp ht hb).imp fun E σ H ⟨w, env, s, hw, hs, he, hp⟩ => by
  subst hw
  refine ⟨fun m σ H => ∃ (w2 : Wd) (env2 : Ev) (s2 : Sto), w2.H = H ∧ Rs c w2 s2 ∧ re c w2 env2 σ ∧ postS c W w2 (whileS ft f m env2 s2) E, ⟨n, w, env, s, rfl, hs, he, hp⟩, ?_⟩
  rintro m σ2 H2 ⟨w2, env2, s2, rfl, r2, he2, p2⟩
  cases m with
  | zero => exact p2.elim
  | succ m =>
    simp only [whileS] at p2
    refine ⟨w2, env2, s2, rfl, r2, he2, (st_bindt he2 p2).mono fun b H3 ⟨w3, s3, e3, x3, r3, p3⟩ => ?_⟩
    subst e3
    cases b with
    | true =>
      have p3 : postS c W w3 (match f env2 s3 with
            | .nx env2 s2 => whileS ft f m env2 s2
            | .ct env2 s2 => whileS ft f m env2 s2
            | .bk env2 s2 => .nx env2 s2
            | r => r) E := p3
      refine ⟨fun σ' H' => ∃ (w4 : Wd) (env4 : Ev) (s4 : Sto), w4.H = H' ∧ Rs c w4 s4 ∧ re c w4 env4 σ' ∧ postS c W w4 (whileS ft f m env4 s4) E, fun σ' H' z => ⟨m, Nat.lt_succ_self _, z⟩, w3, env2, s3, rfl, r3, he2.mono x3, ?_⟩
      cases hf : f env2 s3 <;> rw [hf] at p3
      · exact fun w4 σ4 x4 r4 he4 => ⟨w4, _, _, rfl, r4, he4, postS.ext p3 x4⟩
      · exact p3
      · exact p3
      · exact fun w4 σ4 x4 r4 he4 => ⟨w4, _, _, rfl, r4, he4, postS.ext p3 x4⟩
      · exact p3
      · exact p3
    | false => exact p3 w3 σ2 (.refl w3) r3 (he2.mono x3)
end
end Ir
end
section
set_option Elab.async false
set_option linter.all false
set_option maxRecDepth 100000
namespace Ir
open PySem PySem.Spec PyProof.Rows L2

/-! ### data without references; data whose references lie below n -/
mutual
def bel (n : Nat) : D → Bool
  | .tup ds => bels n ds
  | .lst ds => bels n ds
  | .klst ds => bels n ds
  | .dic _ ds => bels n ds
  | .set ds => bels n ds
  | .ins _ _ ds => bels n ds
  | .ref i => decide (i < n)
  | _ => true
def bels (n : Nat) : List D → Bool
  | [] => true
  | d :: ds => bel n d && bels n ds
end
abbrev free (d : D) : Bool := bel 0 d
abbrev frees (ds : List D) : Bool := bels 0 ds
mutual
theorem bel_mono {n m : Nat} (h : n ≤ m) : ∀ d : D, bel n d = true → bel m d = true
  | .tup ds, q => by simp only [bel] at q ⊢; exact bels_mono h ds q
  | .lst ds, q => by simp only [bel] at q ⊢; exact bels_mono h ds q
  | .klst ds, q => by simp only [bel] at q ⊢; exact bels_mono h ds q
  | .dic _ ds, q => by simp only [bel] at q ⊢; exact bels_mono h ds q
  | .set ds, q => by simp only [bel] at q ⊢; exact bels_mono h ds q
  | .ins _ _ ds, q => by simp only [bel] at q ⊢; exact bels_mono h ds q
  | .ref i, q => by simp only [bel, decide_eq_true_eq] at q ⊢; omega
  | .non, _ => by simp only [bel]
  | .bl _, _ => by simp only [bel]
  | .int _, _ => by simp only [bel]
  | .str _, _ => by simp only [bel]
  | .cls _, _ => by simp only [bel]
  | .ty _, _ => by simp only [bel]
theorem bels_mono {n m : Nat} (h : n ≤ m) : ∀ ds : List D, bels n ds = true → bels m ds = true
  | [], _ => by simp only [bels]
  | d :: ds, q => by
    simp only [bels, Bool.and_eq_true] at q ⊢
    exact ⟨bel_mono h d q.1, bels_mono h ds q.2⟩
end
mutual
theorem rv_bel {c : Rc} {w : Wd} : ∀ (d : D) (v : V), rv c w d v → bel w.N d = true
  | .tup ds, v, h => by simp only [rv, bel] at h ⊢; obtain ⟨_, vs, _, _, r⟩ := h; exact rvs_bel ds vs r
  | .lst ds, v, h => by simp only [rv, bel] at h ⊢; obtain ⟨_, vs, _, _, r⟩ := h; exact rvs_bel ds vs r
  | .klst ds, v, h => by simp only [rv, bel] at h ⊢; obtain ⟨_, vs, _, _, r⟩ := h; exact rvs_bel ds vs r
  | .dic _ ds, v, h => by simp only [rv, bel] at h ⊢; obtain ⟨_, vs, _, _, _, r⟩ := h; exact rvs_bel ds vs r
  | .set _, v, h => by simp only [rv] at h
  | .ins _ _ ds, v, h => by simp only [rv, bel] at h ⊢; obtain ⟨_, _, vs, _, _, _, _, r⟩ := h; exact rvs_bel ds vs r
  | .ref i, v, h => by simp only [rv, bel, decide_eq_true_eq] at h ⊢; exact h.1
  | .non, _, _ => by simp only [bel]
  | .bl _, _, _ => by simp only [bel]
  | .int _, _, _ => by simp only [bel]
  | .str _, _, _ => by simp only [bel]
  | .cls _, _, _ => by simp only [bel]
  | .ty _, _, _ => by simp only [bel]
theorem rvs_bel {c : Rc} {w : Wd} : ∀ (ds : List D) (vs : List V), rvs c w ds vs → bels w.N ds = true
  | [], _, _ => by simp only [bels]
  | d :: ds, vs, h => by
    simp only [rvs] at h
    obtain ⟨v, r, rfl, h1, h2⟩ := h
    simp only [bels, Bool.and_eq_true]
    exact ⟨rv_bel d v h1, rvs_bel ds r h2⟩
end
theorem ro_bel {c : Rc} {w : Wd} {d : D} {a : Addr} (h : ro c w d a) : bel w.N d = true := by
  cases d <;> try exact h.elim
  · obtain ⟨vs, _, r⟩ := h; simp only [bel]; exact rvs_bel _ _ r
  · obtain ⟨vs, _, r⟩ := h; simp only [bel]; exact rvs_bel _ _ r
  · obtain ⟨_, vs, _, _, r⟩ := h; simp only [bel]; exact rvs_bel _ _ r
/-! ### the store is cut back to n objects; what goes is kept as it is from now on -/
def Wd.cut (w : Wd) (n : Nat) : Wd := { w with N := n, Z := fun a => w.Z a ∨ ∃ i, n ≤ i ∧ i < w.N ∧ a = w.η i }
mutual
theorem rv_cut {c : Rc} {w : Wd} {n : Nat} : ∀ (d : D) (v : V), rv c w d v → bel n d = true → rv c (w.cut n) d v
  | .non, _, h, _ => by simpa only [rv] using h
  | .bl b, _, h, _ => by simpa only [rv] using h
  | .int i, _, h, _ => by simpa only [rv] using h
  | .str x, _, h, _ => by simpa only [rv] using h
  | .tup ds, _, h, q => by
    simp only [rv, bel] at h q ⊢
    obtain ⟨a, vs, h1, h2, h3⟩ := h
    exact ⟨a, vs, h1, h2, rvs_cut ds vs h3 q⟩
  | .lst ds, _, h, q => by
    simp only [rv, bel] at h q ⊢
    obtain ⟨a, vs, h1, h2, h3⟩ := h
    exact ⟨a, vs, h1, ⟨.inl h2.1, h2.2⟩, rvs_cut ds vs h3 q⟩
  | .klst ds, _, h, q => by
    simp only [rv, bel] at h q ⊢
    obtain ⟨a, vs, h1, h2, h3⟩ := h
    exact ⟨a, vs, h1, h2, rvs_cut ds vs h3 q⟩
  | .dic ks ds, _, h, q => by
    simp only [rv, bel] at h q ⊢
    obtain ⟨a, vs, h1, h2, h3, h4⟩ := h
    exact ⟨a, vs, h1, .inl h2, h3, rvs_cut ds vs h4 q⟩
  | .set _, _, h, _ => by simpa only [rv] using h
  | .ins k ks ds, _, h, q => by
    simp only [rv, bel] at h q ⊢
    obtain ⟨a, dx, vs, h1, h2, h3, h4, h5⟩ := h
    exact ⟨a, dx, vs, h1, .inl h2, h3, h4, rvs_cut ds vs h5 q⟩
  | .ref i, _, h, q => by
    simp only [rv, bel, decide_eq_true_eq] at h q ⊢
    exact ⟨q, h.2⟩
  | .cls k, _, h, _ => by simpa only [rv] using h
  | .ty m, _, h, _ => by simpa only [rv] using h
theorem rvs_cut {c : Rc} {w : Wd} {n : Nat} : ∀ (ds : List D) (vs : List V), rvs c w ds vs → bels n ds = true → rvs c (w.cut n) ds vs
  | [], _, h, _ => by simpa only [rvs] using h
  | d :: ds, _, h, q => by
    simp only [rvs, bels, Bool.and_eq_true] at h q ⊢
    obtain ⟨v, r, h1, h2, h3⟩ := h
    exact ⟨v, r, h1, rv_cut d v h2 q.1, rvs_cut ds r h3 q.2⟩
end
theorem ro_cut {c : Rc} {w : Wd} {n : Nat} {d : D} {a : Addr} (h : ro c w d a) (q : bel n d = true) : ro c (w.cut n) d a := by
  cases d <;> try exact h.elim
  · obtain ⟨vs, e, r⟩ := h; simp only [bel] at q; exact ⟨vs, e, rvs_cut _ _ r q⟩
  · obtain ⟨vs, e, r⟩ := h; simp only [bel] at q; exact ⟨vs, e, rvs_cut _ _ r q⟩
  · obtain ⟨dx, vs, e, l, r⟩ := h; simp only [bel] at q; exact ⟨dx, vs, e, l, rvs_cut _ _ r q⟩
/-- the elder objects are as they were, or hold no references -/
def okAll : Sto → Sto → Bool
  | [], _ => true
  | a :: as, b :: bs => (deq b a || free b) && okAll as bs
  | _ :: _, [] => false
theorem okAll_get : ∀ {s t : Sto}, okAll s t = true → ∀ (i : Nat) (d : D), i < s.length → t[i]? = some d → s[i]? = some d ∨ free d = true
  | [], _, _, i, d, h, _ => by simp at h
  | a :: as, [], h, _, _, _, _ => by simp [okAll] at h
  | a :: as, b :: bs, h, i, d, hi, e => by
    simp only [okAll, Bool.and_eq_true, Bool.or_eq_true] at h
    cases i with
    | zero =>
      simp only [List.getElem?_cons_zero, Option.some.injEq] at e ⊢
      subst e
      rcases h.1 with q | q
      · exact .inl (deq_eq _ _ q).symm
      · exact .inr q
    | succ i =>
      simp only [List.getElem?_cons_succ] at e ⊢
      exact okAll_get h.2 i d (by simpa using hi) e
theorem Ext.cut {w w2 : Wd} (e : Ext w w2) : Ext w (w2.cut w.N) :=
  ⟨Nat.le_refl _, e.eta, fun a z => .inl (e.z a z), e.h, e.t, e.f⟩
theorem Rs.cut {c : Rc} {w w2 : Wd} {s s2 : Sto} (hs : Rs c w s) (e : Ext w w2) (hs2 : Rs c w2 s2) (ok : okAll s s2 = true) : Rs c (w2.cut w.N) (s2.take w.N) where
  len := by
    show w.N = _
    rw [List.length_take, ← hs2.len]
    have := e.n
    omega
  inj := fun i j hi hj q => hs2.inj i j (Nat.lt_of_lt_of_le hi e.n) (Nat.lt_of_lt_of_le hj e.n) q
  nz := fun i hi z => by
    have hi : i < w.N := hi
    rcases z with z | ⟨j, h1, h2, h3⟩
    · exact hs2.nz i (Nat.lt_of_lt_of_le hi e.n) z
    · have := hs2.inj i j (Nat.lt_of_lt_of_le hi e.n) h2 h3
      omega
  zs := fun a z => by
    rcases z with z | ⟨j, h1, h2, rfl⟩
    · exact hs2.zs a z
    · obtain ⟨d, _, r⟩ := hs2.at_ h2
      obtain ⟨o, q, _⟩ := ro.some r
      exact ⟨o, q, fun ps e => r.noTab.1 ps (e ▸ q)⟩
  obj := fun i d h => by
    have hi : i < w.N := by
      have := (List.getElem?_eq_some_iff.mp h).1
      rw [List.length_take] at this
      omega
    rw [List.getElem?_take_of_lt hi] at h
    have r := hs2.obj i d h
    refine ro_cut r ?_
    have hi' : i < s.length := by rw [← hs.len]; exact hi
    rcases okAll_get ok i d hi' h with q | q
    · exact ro_bel (hs.obj i d q)
    · exact bel_mono (Nat.zero_le _) d q
  tabs := hs2.tabs
  tz := fun q hq z => by
    rcases z with z | ⟨j, h1, h2, h3⟩
    · exact hs2.tz q hq z
    · obtain ⟨d, _, r⟩ := hs2.at_ h2
      exact tab_ne hs2.tabs r.noTab q hq h3
/-! ### what is handed out: new objects become data -/
def mapO (f : D → Option D) : List D → Option (List D)
  | [] => some []
  | d :: ds => (f d).bind fun e => (mapO f ds).map fun es => e :: es
def fz (s : Sto) (n : Nat) : Nat → D → Option D
  | 0, _ => none
  | k + 1, d => if bel n d = true then some d else match d with
    | .tup ds => (mapO (fz s n k) ds).map .tup
    | .ref i => match s[i]? with
      | some (.lst ds) => (mapO (fz s n k) ds).map .lst
      | some (.ins c ks ds) => (mapO (fz s n k) ds).map (.ins c ks)
      | some (.dic ks ds) => (mapO (fz s n k) ds).map (.dic ks)
      | _ => none
    | _ => none
theorem mapO_ok {c : Rc} {w w3 : Wd} {f : D → Option D} (hf : ∀ d d' v, f d = some d' → rv c w d v → rv c w3 d' v) : ∀ {ds es : List D} {vs : List V}, mapO f ds = some es → rvs c w ds vs → rvs c w3 es vs
  | [], es, vs, h, r => by
    simp only [mapO, Option.some.injEq] at h
    subst h
    simp only [rvs] at r ⊢
    exact r
  | d :: ds, es, vs, h, r => by
    simp only [mapO] at h
    obtain ⟨e, h1, h2⟩ := Option.bind_eq_some_iff.mp h
    obtain ⟨es', h3, rfl⟩ := Option.map_eq_some_iff.mp h2
    simp only [rvs] at r
    obtain ⟨v, r', rfl, r1, r2⟩ := r
    exact .cons (hf d e v h1 r1) (mapO_ok hf h3 r2)
theorem mapO_length {f : D → Option D} : ∀ {ds es : List D}, mapO f ds = some es → es.length = ds.length
  | [], es, h => by
    simp only [mapO, Option.some.injEq] at h
    subst h; rfl
  | d :: ds, es, h => by
    simp only [mapO] at h
    obtain ⟨e, h1, h2⟩ := Option.bind_eq_some_iff.mp h
    obtain ⟨es', h3, rfl⟩ := Option.map_eq_some_iff.mp h2
    simp only [List.length_cons, mapO_length h3]
theorem fz_ok {c : Rc} {w : Wd} {s : Sto} {n : Nat} (hs : Rs c w s) : ∀ (k : Nat) (d d' : D) (v : V), fz s n k d = some d' → rv c w d v → rv c (w.cut n) d' v
  | 0, _, _, _, h, _ => by simp [fz] at h
  | k + 1, d, d', v, h, r => by
    simp only [fz] at h
    split at h
    · cases h
      exact rv_cut d v r (by assumption)
    · rename_i hb
      split at h
      · obtain ⟨es, h1, rfl⟩ := Option.map_eq_some_iff.mp h
        simp only [rv] at r ⊢
        obtain ⟨a, vs, r1, r2, r3⟩ := r
        exact ⟨a, vs, r1, r2, mapO_ok (fun d d' v => fz_ok hs k d d' v) h1 r3⟩
      · rename_i i
        simp only [rv] at r
        obtain ⟨hi, rfl⟩ := r
        have hni : n ≤ i := by
          simp only [bel, decide_eq_true_eq] at hb
          omega
        have hz : (w.cut n).Z (w.η i) := .inr ⟨i, hni, hi, rfl⟩
        split at h
        · rename_i ds hq
          obtain ⟨es, h1, rfl⟩ := Option.map_eq_some_iff.mp h
          obtain ⟨vs, e1, e2⟩ := hs.obj i _ hq
          simp only [rv]
          exact ⟨_, vs, rfl, ⟨hz, e1⟩, mapO_ok (fun d d' v => fz_ok hs k d d' v) h1 e2⟩
        · rename_i kc ks ds hq
          obtain ⟨es, h1, rfl⟩ := Option.map_eq_some_iff.mp h
          obtain ⟨dx, vs, e1, e2, e3⟩ := hs.obj i _ hq
          simp only [rv]
          exact ⟨_, dx, vs, rfl, hz, e1, by rw [mapO_length h1]; exact e2, mapO_ok (fun d d' v => fz_ok hs k d d' v) h1 e3⟩
        · rename_i ks ds hq
          obtain ⟨es, h1, rfl⟩ := Option.map_eq_some_iff.mp h
          obtain ⟨vs, e1, e2⟩ := hs.obj i _ hq
          simp only [rv]
          exact ⟨_, vs, rfl, hz, e1, mapO_ok (fun d d' v => fz_ok hs k d d' v) h1 e2⟩
        · cases h
      · cases h
/-- behind a call that began at s: its own objects go, what it hands out becomes data -/
def leave (s s2 : Sto) (d : D) : R D := match fz s2 s.length 20 d with
  | some d' => if okAll s s2 = true then .ok d' (s2.take s.length) else .ok d s2
  | none => .ok d s2
theorem leave_ok {c : Rc} {W : WX} {σ : L2.St} {w w2 : Wd} {s s2 : Sto} {d : D} {v : V} {Q : VK} (hs : Rs c w s) (e : Ext w w2) (hs2 : Rs c w2 s2) (r : rv c w2 d v) (h : post c W σ w (leave s s2 d) Q) : Q v w2.H := by
  unfold leave at h
  split at h
  · rename_i d' hd
    split at h
    · rename_i ok
      have hl : s.length = w.N := hs.len.symm
      rw [hl] at h hd
      exact h (w2.cut w.N) v e.cut (hs.cut e hs2 ok) (fz_ok hs2 20 d d' v hd r)
    · exact h w2 v e hs2 r
  · exact h w2 v e hs2 r
end Ir
end
section
set_option Elab.async false
set_option linter.all false
set_option maxRecDepth 100000
namespace Ir
open PySem PySem.Spec PyProof.Rows L2

/-! ### list comprehensions -/
def loopC (gd : Sto → Bool) (t : Tg) (ft : Ft) (fe : Fe) (env0 : Ev) (n0 : Nat) : List D → Sto → Option Sto
  | [], s => if gd s = true then some s else none
  | d :: ds, s => if gd s = true then match t.put env0 d with
      | some env1 => match ft env1 s with
        | .ok true s2 => match fe env1 s2 with
          | .ok y s3 => match s3[n0]? with
            | some (.lst acc) => if acc.length < sizeLine then loopC gd t ft fe env0 n0 ds (s3.set n0 (.lst (acc ++ [y]))) else none
            | _ => none
          | _ => none
        | .ok false s2 => loopC gd t ft fe env0 n0 ds s2
        | _ => none
      | none => none
    else none
def wipeE (env : Ev) : List Nat → Ev
  | [] => env
  | v :: vs => (wipeE env vs).set v none
theorem re.setN {c : Rc} {w : Wd} {env : Ev} {σ : L2.St} (h : re c w env σ) (i : Nat) : re c w (env.set i none) (σ.set i none) := by
  refine ⟨by simpa using h.1, fun j e hj => ?_⟩
  by_cases hij : i = j
  · subst hij
    have hi : i < env.length := by
      have := (List.getElem?_eq_some_iff.mp hj).1
      simpa using this
    rw [List.getElem?_set_self hi] at hj
    cases hj
  · rw [List.getElem?_set_ne hij] at hj ⊢
    exact h.2 j e hj
theorem re.wipe {c : Rc} {w : Wd} : ∀ {env : Ev} {σ : L2.St} (vs : List Nat), re c w env σ → re c w (wipeE env vs) (wipe σ vs)
  | _, _, [], h => h
  | _, _, v :: vs, h => (re.wipe vs h).setN v
theorem wipe_get {σ : L2.St} {vs : List Nat} {i : Nat} (hi : i ∈ vs) : ∀ (x : Option V), (wipe σ vs)[i]? = some x → x = none := by
  induction vs with
  | nil => cases hi
  | cons v vs ih =>
    intro x h
    unfold wipe at h
    by_cases hv : v = i
    · subst hv
      by_cases hl : v < (wipe σ vs).length
      · rw [List.getElem?_set_self hl] at h; exact (Option.some.inj h).symm
      · rw [List.getElem?_eq_none (by simpa using hl)] at h; cases h
    · rw [List.getElem?_set_ne hv] at h
      rcases List.mem_cons.mp hi with e | hi
      · exact absurd e.symm hv
      · exact ih hi x h
theorem wipe_eq {σ σ' : L2.St} {vs : List Nat} (hl : σ.length = σ'.length) (h : ∀ i, i ∉ vs → σ[i]? = σ'[i]?) : wipe σ vs = wipe σ' vs := by
  apply List.ext_getElem?
  intro i
  by_cases hi : i ∈ vs
  · by_cases hlt : i < σ.length
    · have h1 : i < (wipe σ vs).length := by rw [wipe_length]; exact hlt
      have h2 : i < (wipe σ' vs).length := by rw [wipe_length, ← hl]; exact hlt
      have e1 := wipe_get (σ := σ) hi (wipe σ vs)[i] (by simp [h1])
      have e2 := wipe_get (σ := σ') hi (wipe σ' vs)[i] (by simp [h2])
      rw [List.getElem?_eq_getElem h1, List.getElem?_eq_getElem h2, e1, e2]
    · rw [List.getElem?_eq_none (by rw [wipe_length]; omega), List.getElem?_eq_none (by rw [wipe_length]; omega)]
  · have key : ∀ (τ : L2.St) (us : List Nat), i ∉ us → (wipe τ us)[i]? = τ[i]? := by
      intro τ us
      induction us with
      | nil => intro _; rfl
      | cons u us ih =>
        intro hn
        simp only [List.mem_cons, not_or] at hn
        unfold wipe
        rw [List.getElem?_set_ne (Ne.symm hn.1)]
        exact ih hn.2
    rw [key σ vs hi, key σ' vs hi]
    exact h i hi
theorem setAll_get {α : Type} : ∀ (is : List Nat) (vs : List α) (σ : List (Option α)) (i : Nat), i ∉ is → (setAll σ is vs)[i]? = σ[i]?
  | [], vs, σ, i, _ => by cases vs <;> rfl
  | k :: is, [], σ, i, _ => rfl
  | k :: is, v :: vs, σ, i, h => by
    simp only [List.mem_cons, not_or] at h
    simp only [setAll]
    rw [setAll_get is vs _ i h.2, List.getElem?_set_ne (Ne.symm h.1)]
theorem wipe_setAll {σ : L2.St} {own is : List Nat} {vs : List V} (h : ∀ i ∈ is, i ∈ own) : wipe (setAll (wipe σ own) is vs) own = wipe σ own := by
  have e1 : wipe (wipe σ own) own = wipe σ own := by
    refine wipe_eq (by rw [wipe_length]) fun i hi => ?_
    have key : ∀ (τ : L2.St) (us : List Nat), i ∉ us → (wipe τ us)[i]? = τ[i]? := by
      intro τ us
      induction us with
      | nil => intro _; rfl
      | cons u us ih =>
        intro hn
        simp only [List.mem_cons, not_or] at hn
        unfold wipe
        rw [List.getElem?_set_ne (Ne.symm hn.1)]
        exact ih hn.2
    exact key σ own hi
  rw [← e1]
  conv => rhs; rw [e1]
  rw [e1]
  refine (wipe_eq (by rw [setAll_length]) fun i hi => ?_).trans e1
  exact setAll_get is vs _ i fun z => hi (h i z)
def mComp (m : Bool) (fi : Fi) (t : Tg) (own : List Nat) (ft : Ft) (fe : Fe) : Fe := fun env s => (fi env s).bind fun b s => match b.items s with
  | some ds => match loopC (guard b ds) t ft fe (wipeE env own) s.length ds (s ++ [.lst []]) with
    | some s' => if m = true then .ok (.ref s.length) s' else leave s s' (.ref s.length)
    | none => .bad
  | none => .bad
def WF : WX := fun _ _ _ _ => False
section
variable {X : Cx} {c : Rc} {W : WX} {elt iter tg : Expr} {ifs : List Expr} {fe : Fe} {ft : Ft} {pos : Pos}
theorem bindi_post {σ : L2.St} {w : Wd} {f : R Itb} {g : Itb → Sto → R D} {Q : VK} (h : post c W σ w (f.bind g) Q) :
    posti c W σ w f fun J H1 => ∃ (w' : Wd) (b : Itb) (s' : Sto), w'.H = H1 ∧ Ext w w' ∧ Rs c w' s' ∧ ItG c J w' b.items ∧ post c W σ w' (g b s') Q := by
  cases f with
  | ok d s => exact fun w' J e r q => ⟨w', d, s, rfl, e, r, q, post.ext (r := g d s) h e⟩
  | ex k ds s => exact h
  | bad => exact h
theorem comp_core {scope : Scope} {own : List (Str × Nat)} {m : Bool} {fi : Fi} {t : Tg} {σ : L2.St} {H : Hp} {Q : VK} {K : PySem.W.Frag} (hk : c.K = K) (hsub : ∀ i ∈ t.slots, i ∈ own.map (·.2)) (h : rd c W (mComp m fi t (own.map (·.2)) ft fe) σ H Q) :
    tLc (rdi c W fi) (t.g K) (rdt c WF ft) (rd c WF fe) (own.map (·.2)) σ H Q := by
  obtain ⟨w, env, s, rfl, hs, he, hp⟩ := h
  refine ⟨w, env, s, rfl, hs, he, (bindi_post hp).mono fun J H1 ⟨w1, b, s1, e1, x1, r1, q1, p1⟩ => ?_⟩
  subst e1
  intro A hA
  generalize own.map (·.2) = os at *
  cases hit : b.items s1 with
  | none => rw [hit] at p1; exact p1.elim
  | some ds =>
    rw [hit] at p1
    cases hL : loopC (guard b ds) t ft fe (wipeE env os) s1.length ds (s1 ++ [.lst []]) with
    | none =>
      have p1 : post c W σ w1 (match loopC (guard b ds) t ft fe (wipeE env os) s1.length ds (s1 ++ [.lst []]) with
        | some s' => if m = true then .ok (.ref s1.length) s' else leave s1 s' (.ref s1.length)
        | none => .bad) Q := p1
      rw [hL] at p1
      exact p1.elim
    | some sE =>
    have p1 : post c W σ w1 (match loopC (guard b ds) t ft fe (wipeE env os) s1.length ds (s1 ++ [.lst []]) with
      | some s' => if m = true then .ok (.ref s1.length) s' else leave s1 s' (.ref s1.length)
      | none => .bad) Q := p1
    rw [hL] at p1
    have p1 : post c W σ w1 (if m = true then .ok (.ref s1.length) sE else leave s1 sE (.ref s1.length)) Q := p1
    have w0 : Rs c (w1.new A (.lst [])) (s1 ++ [.lst []]) := .new r1 hA ⟨[], upd_same, .nil⟩
    have x0 : Ext w1 (w1.new A (.lst [])) := .new r1 hA
    refine ⟨fun i m' H => ∃ (w2 : Wd) (s2 : Sto), w2.H = H ∧ Ext (w1.new A (.lst [])) w2 ∧ Rs c w2 s2 ∧ m' = ds.length - i ∧ i ≤ ds.length ∧ loopC (guard b ds) t ft fe (wipeE env os) s1.length (ds.drop i) s2 = some sE, ⟨ds.length, _, _, rfl, .refl _, w0, by simp, Nat.zero_le _, by rw [List.drop_zero]; exact hL⟩, ?_⟩
    rintro i m' H2 ⟨w2, s2, rfl, x2, r2, rfl, hil, p2⟩
    have hnA : w2.η s1.length = A := by
      have h1 : s1.length = w1.N := r1.len.symm
      rw [h1, x2.eta _ (Nat.lt_succ_self _), new_eta]
    have hnN : s1.length < w2.N := by
      have := x2.n
      have h1 : s1.length = w1.N := r1.len.symm
      have h2 : (w1.new A (.lst [])).N = w1.N + 1 := rfl
      omega
    by_cases hlt : i < ds.length
    · rw [List.drop_eq_getElem_cons hlt] at p2
      simp only [loopC] at p2
      split at p2
      · rename_i hgd
        have hgi := guard_ok hgd
        refine .inr ⟨q1.go w2 s2 ds i (x0.trans x2) r2 hgi hlt, fun H' => ∃ (w3 : Wd) (s3 : Sto), w3.H = H' ∧ Ext (w1.new A (.lst [])) w3 ∧ Rs c w3 s3 ∧ loopC (guard b ds) t ft fe (wipeE env os) s1.length (ds.drop (i + 1)) s3 = some sE,
          fun H' ⟨w3, s3, g1, g2, g3, g4⟩ => ⟨ds.length - (i + 1), by omega, w3, s3, g1, g2, g3, rfl, hlt, g4⟩, fun x H' y => ?_⟩
        obtain ⟨w3, d, x3, rfl, r3, hd, q3⟩ := q1.yld w2 s2 ds i x H' (x0.trans x2) r2 hgi hlt y
        rw [get_of hlt] at hd
        cases hd
        have he3 : re c w3 (wipeE env os) (wipe σ os) := (((he.mono x1).mono x0).mono (x2.trans x3)).wipe os
        cases hput : t.put (wipeE env os) ds[i] with
        | none => rw [hput] at p2; cases p2
        | some env3 =>
          rw [hput] at p2
          dsimp only at p2
          refine hk ▸ put_ok he3 q3 hput rfl fun σ3 he4 ⟨vs, e4, _⟩ => ⟨?_, ?_⟩
          · rw [e4]
            exact wipe_setAll hsub
          · refine ⟨w3, env3, s2, rfl, r3, he4, ?_⟩
            cases hft : ft env3 s2 with
            | bad => rw [hft] at p2; cases p2
            | ex k es s => rw [hft] at p2; cases p2
            | ok bt s4 =>
              rw [hft] at p2
              refine fun w4 x4 r4 => ?_
              cases bt with
              | false =>
                dsimp only at p2
                rw [if_neg Bool.false_ne_true]
                exact ⟨w4, s4, rfl, (x2.trans x3).trans x4, r4, p2⟩
              | true =>
                dsimp only at p2
                rw [if_pos rfl]
                refine ⟨w4, env3, s4, rfl, r4, he4.mono x4, ?_⟩
                cases hfe : fe env3 s4 with
                | bad => rw [hfe] at p2; cases p2
                | ex k es s => rw [hfe] at p2; cases p2
                | ok y5 s5 =>
                  rw [hfe] at p2
                  dsimp only at p2
                  refine fun w5 v5 x5 r5 q5 => ?_
                  have x25 : Ext w2 w5 := (x3.trans x4).trans x5
                  have hN5 : s1.length < w5.N := Nat.lt_of_lt_of_le hnN x25.n
                  have hA5 : w5.η s1.length = A := (x25.eta _ hnN).trans hnA
                  split at p2
                  · rename_i acc hacc
                    obtain ⟨av, g1, g2⟩ := r5.obj _ _ hacc
                    rw [hA5] at g1
                    split at p2
                    · rename_i hsz
                      refine ⟨av, g1, by rw [← g2.length]; exact hsz, ?_⟩
                      have wr : Rs c (w5.lay (w5.η s1.length) (.lst (av ++ [v5]))) (s5.set s1.length (.lst (acc ++ [y5]))) := .write r5 hN5 ⟨av ++ [v5], upd_same, (g2.append (.cons q5 .nil)).mono (.write r5 hN5)⟩
                      refine ⟨_, _, by rw [← hA5]; rfl, (x2.trans x25).trans (.write (o := .lst (av ++ [v5])) r5 hN5), wr, p2⟩
                    · cases p2
                  · cases p2
      · cases p2
    · have hie : i = ds.length := by omega
      subst hie
      rw [List.drop_length] at p2
      simp only [loopC] at p2
      split at p2
      · rename_i hgd
        cases p2
        refine .inl ⟨q1.stop w2 _ ds (x0.trans x2) r2 (guard_ok hgd), ?_⟩
        have hv : rv c w2 (.ref s1.length) (.ref A) := by
          simp only [rv]
          exact ⟨hnN, by rw [hnA]⟩
        cases m with
        | true =>
          rw [if_pos rfl] at p1
          exact p1 w2 _ (x0.trans x2) r2 hv
        | false =>
          rw [if_neg Bool.false_ne_true] at p1
          exact leave_ok r1 (x0.trans x2) r2 hv p1
      · cases p2
theorem x_comp {scope : Scope} {own : List (Str × Nat)} {m : Bool} {fi : Fi} {t : Tg} (hk : c.K = X.K) (hc : X.calm = true) (hN : X.N.Nodup) (hi : PI X tg iter (rdi c W fi)) (ok : BlkOk X.N X.env.scope scope own) (hsub : ∀ i ∈ t.slots, i ∈ own.map (·.2))
    (hg : ∀ (s : Shared) (H : Hp) (C : Addr) (cl : List (Str × Addr)) (fp : List Addr), PG (X.blk s H scope (compEnvC scope cl C X.env) fp) tg (t.g X.K)) (ht : ∀ (s : Shared) (H : Hp) (C : Addr) (cl : List (Str × Addr)) (fp : List Addr), PTs (X.blk s H scope (compEnvC scope cl C X.env) fp) ifs (rdt c WF ft))
    (he : ∀ (s : Shared) (H : Hp) (C : Addr) (cl : List (Str × Addr)) (fp : List Addr), PE (X.blk s H scope (compEnvC scope cl C X.env) fp) elt (rd c WF fe)) (hs : ∀ x, foldedSetIterable iter X.env x = pure x) :
    PE X (.ListComp elt [⟨tg, iter, ifs, 0⟩] scope pos) (rd c W (mComp m fi t (own.map (·.2)) ft fe)) := (pe_lc hc hN hi ok hg ht he hs).imp fun σ H Q h => comp_core (scope := scope) hk hsub h
/-- y = [..] on one line -/
theorem s_comp {scope : Scope} {own : List (Str × Nat)} {m : Bool} {fi : Fi} {t : Tg} {i : Nat} {y : Str} {py spos : Pos} (hk : c.K = X.K) (hc : X.calm = true) (hN : X.N.Nodup) (hy : X.N[i]? = some y) (hyl : X.env.scope.names.lookup y = some .local)
    (hsw : swapsWith (.ListComp elt [⟨tg, iter, ifs, 0⟩] scope pos) (some (.Name y py)) spos.line X.env = pure true) (hi : PI X tg iter (rdi c W fi)) (ok : BlkOk X.N X.env.scope scope own) (hsub : ∀ i ∈ t.slots, i ∈ own.map (·.2))
    (hg : ∀ (s : Shared) (H : Hp) (C : Addr) (cl : List (Str × Addr)) (fp : List Addr), PG (X.blk s H scope (compEnvC scope cl C X.env) fp) tg (t.g X.K)) (ht : ∀ (s : Shared) (H : Hp) (C : Addr) (cl : List (Str × Addr)) (fp : List Addr), PTs (X.blk s H scope (compEnvC scope cl C X.env) fp) ifs (rdt c WF ft))
    (he : ∀ (s : Shared) (H : Hp) (C : Addr) (cl : List (Str × Addr)) (fp : List Addr), PE (X.blk s H scope (compEnvC scope cl C X.env) fp) elt (rd c WF fe)) (hs : ∀ x, foldedSetIterable iter X.env x = pure x) :
    PS X (.Assign [.Name y py] (.ListComp elt [⟨tg, iter, ifs, 0⟩] scope pos) spos) (rds c W (sAsg (mComp m fi t (own.map (·.2)) ft fe) (tgName i))) := (ps_setLc hc hN hy hyl hsw hi ok hg ht he hs).imp fun E σ H h => by
  obtain ⟨w, env, s, rfl, hs, he, hp⟩ := h
  refine comp_core (scope := scope) (W := W) (m := m) hk hsub ⟨w, env, s, rfl, hs, he, (st_bind he hp).mono fun v H1 ⟨w1, d, s1, e1, x1, r1, q1, p1⟩ => ?_⟩
  subst e1
  exact p1 w1 _ (.refl w1) r1 ((he.mono x1).set q1 i)
end
end Ir
end
section
set_option Elab.async false
set_option linter.all false
set_option maxRecDepth 100000
/-! room for calls where no container's text is under way -/
namespace Ir
open PySem PySem.Spec PyProof.Rows L2
structure Room (k : Nat) (A : Around) : Prop where
  r : L2.Room k A
  g : A.guards = some []
namespace Room
variable {j k : Nat} {A : Around}
theorem hd (h : Room k A) : A.handled = none := h.r.hd
theorem dp (h : Room k A) : A.depth + 3 * k + 5 < recursionLimit := h.r.dp
theorem un (h : Room k A) : A.units + 16 * k + 200 < cLine := h.r.un
theorem depth (h : Room k A) : A.depth < recursionLimit := h.r.depth
theorem units (h : Room k A) : A.units + 64 < cLine := h.r.units
theorem units0 (h : Room k A) : A.units < cLine := h.r.units0
theorem mono (h : Room k A) (q : j ≤ k) : Room j A := ⟨h.r.mono q, h.g⟩
theorem in1 (h : Room (k + 1) A) : Room k A.in1 := ⟨h.r.in1, h.g⟩
theorem in2 (h : Room (k + 1) A) : Room k A.in1.in1 := ⟨⟨h.hd, by have := h.dp; show A.depth + 3 * k + 5 < _; omega, by have := h.un; show A.units + 1 + 1 + 16 * k + 200 < _; omega⟩, h.g⟩
theorem make (h : Room (k + 1) A) (C : Addr) (us : List Value) (kw : List (Str × Value)) : Room k (A.under (.builtin "type.__call__" ⟨.ref C :: us, kw⟩)) := by
  refine ⟨h.r.make C us kw, ?_⟩
  simp [Around.under, Code.guards, Code.isGuard, guardIds, pushGuards, h.g]
theorem toDeeper (h : A.guards = some []) (env : Env) (q : L2.Room k (A.deeper env)) : Room k (A.deeper env) := ⟨q, h⟩
end Room
/-- a promise by positional values -/
def FnR (P : Program) (w : World) (K : PySem.W.Frag) (mg : Str → Option Value) (base : Heap) (CX : CXT) (k : Nat) (f : Addr) (sp : Sp) : Prop :=
  ∀ (A : Around) (outer : List Env) (s : Shared) (H : Hp) (us : List Value) (vs : List V) (Q : VK) (E : XK), Ir.Room k A → Env0 P w K mg base A outer s H → Vals vs us → sp vs H Q E → codeAny (model P w) A (.call (.ref f) ⟨us, []⟩) (CR CX outer P w H s Q E) s
theorem FnR.imp {P : Program} {w : World} {K : PySem.W.Frag} {mg : Str → Option Value} {base : Heap} {CX : CXT} {k : Nat} {f : Addr} {sp sp' : Sp} (F : Ir.FnR P w K mg base CX k f sp) (h : ∀ vs H Q E, sp' vs H Q E → sp vs H Q E) : Ir.FnR P w K mg base CX k f sp' :=
  fun A o s H us vs Q E hr he hv hq => F A o s H us vs Q E hr he hv (h vs H Q E hq)
section
variable {P : Program} {w : World} {K : PySem.W.Frag} {mg : Str → Option Value} {base : Heap} {CX : CXT} {k : Nat} {f : Addr} {name qual : Str} {params : Arguments} {body : List Stmt} {scope : Scope} {dV kV doc pm cdv ct oc : Value} {an od : Option Addr} {osl : Array (Option Value)} {N ps : List Str} {sp : Sp}
/-- how a def's body keeps its promise -/
abbrev BodyOk (CX : CXT) (P : Program) (w : World) (K : PySem.W.Frag) (mg : Str → Option Value) (base : Heap) (k : Nat) (f : Addr) (qual : Str) (body : List Stmt) (scope : Scope) (cdv : Value) (N : List Str) (sp : Sp) : Prop :=
  ∀ (A : Around) (outer : List Env) (s : Shared) (H : Hp) (vs : List V) (Q : VK) (E : XK), Ir.Room k (A.deeper (envOfC qual scope s.heap.objs.size f cdv)) → sp vs H Q E → ∃ t, PSs (cxOf CX P w K mg base N qual scope f cdv A outer s H E) body t ∧ t { nx := fun _ H' => Q .non H', rt := Q } (start N vs) H
/-- a def that binds by place -/
theorem fn_plain (lk : K.lookup f = some ⟨oc, od, .func (PySem.W.fnOf name qual params body scope dV kV doc pm an cdv ct), osl⟩) (hcd : PySem.W.codeIn K cdv qual = true) (S : FnScope N ps scope) (hb : Binds K (PySem.W.fnOf name qual params body scope dV kV doc pm an cdv ct) ps []) (len : ∀ vs H Q E, sp vs H Q E → vs.length = ps.length) (B : BodyOk CX P w K mg base k f qual body scope cdv N sp) :
    Ir.FnR P w K mg base CX (k + 1) f sp := by
  intro A outer s H us vs Q E hr he hv hq
  have hl := len vs H Q E hq
  have hul : us.length = ps.length := by rw [← hv.length]; exact hl
  have bt := hb s us (he.mod.kin.keeps fun b o q => (he.bs b o q).1) (by rw [List.append_nil]; exact hul)
  rw [List.append_nil] at bt
  refine StX.run_bnd lk hcd S hr.r he (G := fun xs H2 => xs = vs ∧ H2 = H) (fun A' Ex Q' h => bt _ _ _ _ (h s H vs us he .refl rfl (fun _ _ z => z) hv hl ⟨rfl, rfl⟩)) fun s2 H2 xs g hr2 => ?_
  obtain ⟨rfl, rfl⟩ := g
  exact B A outer s2 H2 xs Q E (.toDeeper hr.g _ hr2) hq
theorem vals_cut : ∀ {as bs : List V} {us : List Value}, Vals (as ++ bs) us → ∃ xs ys, us = xs ++ ys ∧ Vals as xs ∧ Vals bs ys
  | [], _, us, h => ⟨[], us, rfl, .nil, h⟩
  | _ :: as, bs, _, h => by
    cases h with
    | cons h0 h =>
      obtain ⟨xs, ys, rfl, h1, h2⟩ := vals_cut (as := as) h
      exact ⟨_ :: xs, ys, rfl, .cons h0 h1, h2⟩
/-- a def with a parameter for all that is left over -/
theorem fn_rest {pv : Str} (lk : K.lookup f = some ⟨oc, od, .func (PySem.W.fnOf name qual params body scope dV kV doc pm an cdv ct), osl⟩) (hcd : PySem.W.codeIn K cdv qual = true) (S : FnScope N (ps ++ [pv]) scope) (hCX : StX.CXUp CX)
    (hb : ∀ us more : List Value, us.length = ps.length → bindArgs (PySem.W.fnOf name qual params body scope dV kV doc pm an cdv ct) ⟨us ++ more, []⟩ = (newTuple more >>= fun t => pure (ps.zip us ++ [(pv, t)]))) (B : BodyOk CX P w K mg base k f qual body scope cdv N sp) :
    Ir.FnR P w K mg base CX (k + 1) f (fun vs H Q E => ∃ as bs, vs = as ++ bs ∧ as.length = ps.length ∧ bs.length ≤ sizeLine ∧ ∀ p, H p = Option.none → sp (as ++ [V.ref p]) (upd H p (.tup bs)) Q E) := by
  intro A outer s H us vs Q E hr he hv ⟨as, bs, hvs, ha, hbs, hq⟩
  subst hvs
  obtain ⟨xs, ys, rfl, h1, h2⟩ := vals_cut hv
  have free : H s.heap.objs.size = Option.none := he.hok.fresh (Nat.le_refl _)
  refine StX.run_bnd lk hcd S hr.r he (G := fun zs H2 => ∃ p, H p = Option.none ∧ zs = as ++ [V.ref p] ∧ H2 = upd H p (.tup bs)) (fun A' Ex Q' h => ?_) fun s2 H2 zs g hr2 => ?_
  · have hx : xs.length = ps.length := by rw [← h1.length]; exact ha
    have hy : ys.length ≤ sizeLine := by rw [← h2.length]; exact hbs
    rw [hb xs ys hx]
    have ok : ObjOk P w (upd H s.heap.objs.size (.tup bs)) (s.heap.push ({ cls := .type "tuple", data := .seq ys.toArray } : Obj)) s.heap.objs.size (.tup bs) := ⟨hbs, ys, h2, ⟨_, Heap.get?_push_size _ rfl, rfl, _, rfl⟩⟩
    have grown := StX.un_laid (fs := frs outer) (s := s) (o := ({ cls := .type "tuple", data := .seq ys.toArray } : Obj)) (u := .tup bs) free
    refine wpAny_bind (wpAny_newTuple (wpAny_pure ?_) hy)
    have q := h _ _ (as ++ [V.ref s.heap.objs.size]) (xs ++ [Value.ref s.heap.objs.size]) (StX.env0_laid he ok) grown rfl (fun e s' => hCX outer s H { s with heap := s.heap.push ({ cls := .type "tuple", data := .seq ys.toArray } : Obj) } _ E e s' grown (fun b o z2 => Heap.get?_push_of_some _ z2) rfl) (h1.append (.cons rfl .nil)) (by simp [ha]) ⟨_, free, rfl, rfl⟩
    rwa [List.zip_append hx.symm] at q
  · obtain ⟨p, hp, rfl, rfl⟩ := g
    exact B A outer s2 _ _ Q E (.toDeeper hr.g _ hr2) (hq p hp)
end
end Ir
end
section
set_option Elab.async false
set_option linter.all false
set_option maxRecDepth 100000
namespace Ir
open PySem PySem.Spec PyProof.Rows L2

/-! ### small facts of the text -/
def isStar : Expr → Bool
  | .Starred _ _ => true
  | _ => false
def noStars : List Expr → Bool
  | [] => true
  | e :: es => !isStar e && noStars es
def plainT : Expr → Bool
  | .UnaryOp .Not _ _ => false
  | .BoolOp _ _ _ => false
  | .IfExp _ _ _ _ => false
  | .Compare _ _ _ _ => false
  | _ => true
def notSlice : Expr → Bool
  | .Slice _ _ _ _ => false
  | _ => true
def notSuper : Expr → Bool
  | .Call (.Name _ _) [] [] _ => false
  | _ => true
def notSet : Expr → Bool
  | .Set _ _ _ => false
  | _ => true
theorem star_one {e : Expr} {es : List Expr} {env : Env} (h : isStar e = false) : starEach (e :: es) env = (false, eval e env) :: starEach es env := by
  cases e <;> first | rfl | cases h
theorem noStars_cons {e : Expr} {es : List Expr} (h : noStars (e :: es) = true) : isStar e = false ∧ noStars es = true := by
  simp only [noStars, Bool.and_eq_true, Bool.not_eq_true'] at h
  exact h
theorem star_any {env : Env} {pos : Pos} : ∀ {es : List Expr}, noStars es = true → (backTo pos (starEach es env)).any (·.1) = false
  | [], _ => rfl
  | e :: es, h => by
    obtain ⟨h1, h2⟩ := noStars_cons h
    rw [star_one h1]
    simp only [backTo, List.map_cons, List.any_cons, Bool.false_or]
    exact star_any h2
theorem star_all {env : Env} {pos : Pos} : ∀ {es : List Expr}, noStars es = true → (backTo pos (starEach es env)).all (fun x => !x.1) = true
  | [], _ => rfl
  | e :: es, h => by
    obtain ⟨h1, h2⟩ := noStars_cons h
    rw [star_one h1]
    simp only [backTo, List.map_cons, List.all_cons, Bool.not_false, Bool.true_and]
    exact star_all h2
theorem base_plain {o : Expr} {f : Str} {env : Env} (h : notSuper o = true) (m : Sem Value) : attributeBase o f env m = m := by
  unfold attributeBase
  split
  · cases h
  · rfl
theorem ix_plain {b : Expr} (h : notSlice b = true) : PlainIx b := fun o i => by
  cases b <;> first | rfl | cases h
theorem true_plain {e : Expr} (h : plainT e = true) {env : Env} (whole : Sem Value) : isTrue e env whole = (do let v ← whole; standAt e.pos; holding [v] (truthy v)) := by
  cases e <;> try rfl
  · cases h
  · rename_i op a p
    cases op <;> first | rfl | cases h
  · cases h
  · cases h
theorem set_plain {e : Expr} {env : Env} (h : notSet e = true) (x : Value) : foldedSetIterable e env x = pure x := by
  cases e <;> first | rfl | cases h

/-! ### calls, by positional promises -/
/-- what a def of the meaning F promises to a call -/
def spR (c : Rc) (F : List D → Sto → R D) : Sp := fun vs H Q E => ∃ (w : Wd) (ds : List D) (s : Sto), w.H = H ∧ Rs c w s ∧ rvs c w ds vs ∧ post c (fun cls d _ H => E cls d H) [] w (F ds s) Q
theorem evalArgs_P {M : Model} {A : Around} {E : Value → Shared → Prop} {s : Shared} {f : Value} {args : List (Bool × Sem Value)} {Q : Args → Shared → Prop} (hn : args.any (·.1) = false)
    (h : wpAny M A (spliced args) (fun vs s' => Q ⟨vs, []⟩ s') E s) : wpAny M A (evalArgs f true args []) Q E s := by
  cases args with
  | nil =>
    unfold evalArgs
    show wpAny M A (spliced [] >>= _) Q E s
    refine wpAny_bind (wpAny_mono h (fun vs s' h' => ?_) fun _ _ x => x)
    refine wpAny_bind (wpAny_pure ?_)
    refine wpAny_holding ?_
    exact wpAny_bind (wpAny_pure (wpAny_bind (wpAny_pure (wpAny_pure h'))))
  | cons a r =>
    obtain ⟨b, x⟩ := a
    cases b with
    | false => exact Calls.evalArgs_plain h
    | true => simp at hn
theorem meth_eval {o : Expr} {name : Str} {apos pos : Pos} {es : List Expr} {env : Env} (hb : notSuper o = true) (hl : (apos.endLine == pos.line) = true) (hn : noStars es = true) (hf : es.length < 30) :
    eval (.Call (.Attribute o name apos) es [] pos) env = (do
      let ov ← eval o env
      standAt apos.atName
      let (f, first) ← holding [ov] (getMethod ov name (do return (← importBound o env).getD true))
      callWith pos f first (backTo pos (starEach es env)) (backToKw pos (keywordEach [] env))) := by
  have few : methodCallForm (es.length + ([] : List Keyword).length) (backTo pos (starEach es env)) (backToKw pos (keywordEach [] env)) = true := by
    unfold methodCallForm
    rw [star_all hn]
    simpa [backToKw, keywordEach] using hf
  show (do
    let ov ← attributeBase o name env (eval o env)
    standAt apos.atName
    methodCall o name apos pos env ov (es.length + ([] : List Keyword).length) (backTo pos (starEach es env)) (backToKw pos (keywordEach [] env))) = _
  rw [base_plain hb]
  unfold methodCall
  rw [few]
  unfold calleeOf methodCallPos
  simp only [hl, Bool.not_true, Bool.false_or, if_true, pure_bind]
section
variable {X : Cx} {W : WX} {k : Nat} {f C p g : Addr} {mc : Value} {sp : Sp} {pins : List (Addr × Obj)} {σ : L2.St} {H : Hp} {s : Shared} {Q : VK} {us : List Value} {vs : List V} {es : List Expr} {pos : Pos} {t : TA}
theorem run_R (F : FnR X.prog X.w X.K X.mg X.base (L2.CX X.prog X.w) k f sp) (hr : Room k X.A) (tk : Takes X W) (I : Inv X pins σ H s) (r : Vals vs us) (h : sp vs H Q (fun cls d H => W cls d σ H)) :
    codeAny (model X.prog X.w) X.A (.call (.ref f) ⟨us, []⟩) (fun r s' => match r with | .ok (.ret v) => EP X pins σ Q v s' | .ok _ => False | .error e => X.xe e s') s := by
  refine codeAny_mono (F X.A X.stack s H us vs Q _ hr I.env0 r h) fun r s' hq => ?_
  cases r with
  | error e => exact passAt tk σ pins H s e s' I hq
  | ok fl =>
    cases fl with
    | ret u => exact I.after hq
    | next => exact False.elim hq
    | brk => exact False.elim hq
    | cont => exact False.elim hq
/-- the arguments, then a callee that is kept -/
theorem cw_P {fv : Value} {first : List Value} {Qc : Value → Shared → Prop} (hk : PySem.W.keepIn X.K fv = true) (ha : PA X es t) (hn : noStars es = true) (I : Inv X pins σ H s) {Qa : List V → Hp → Prop} (h : t σ H Qa)
    (hq : ∀ us s1 vs H1, Inv X pins σ H1 s1 → Vals vs us → Qa vs H1 → wpAny (model X.prog X.w) X.A (call fv (first ++ us)) Qc X.xe s1) : wpAny (model X.prog X.w) X.A (callWith pos fv first (backTo pos (starEach es X.env)) []) Qc X.xe s := by
  refine PySem.W.callWith_of (by rw [star_any hn]; rfl) (PySem.W.keeps_K hk) (evalArgs_P (star_any hn) (thn (ha.run pos pins s σ H _ I h) fun us s1 ⟨vs, H1, I1, r, q⟩ => ⟨I1.kIn, ?_⟩))
  exact hq us s1 vs H1 I1 r q
/-- .. a bound method -/
theorem cw_M {q : Addr} {Qc : Value → Shared → Prop} (hf : PySem.W.fnIn X.K g = true) (ha : PA X es t) (hn : noStars es = true) (I : Inv X ((q, PySem.W.methodObj (.ref g) (.ref C)) :: pins) σ H s) {Qa : List V → Hp → Prop} (h : t σ H Qa)
    (hq : ∀ us s1 vs H1, Inv X ((q, PySem.W.methodObj (.ref g) (.ref C)) :: pins) σ H1 s1 → Vals vs us → Qa vs H1 → wpAny (model X.prog X.w) X.A (call (.ref q) us) Qc X.xe s1) : wpAny (model X.prog X.w) X.A (callWith pos (.ref q) [] (backTo pos (starEach es X.env)) []) Qc X.xe s := by
  refine PySem.W.callWith_of (by rw [star_any hn]; rfl) (PySem.W.keeps_M hf) (evalArgs_P (star_any hn) (thn (ha.run pos _ s σ H _ I h) fun us s1 ⟨vs, H1, I1, r, q⟩ => ⟨⟨ClX.pin_at I1, I1.kIn⟩, ?_⟩))
  exact hq us s1 vs H1 I1 r q
theorem run_cmR {q : Addr} (F : FnR X.prog X.w X.K X.mg X.base (L2.CX X.prog X.w) k g sp) (hr : Room k X.A) (tk : Takes X W) (I : Inv X ((q, PySem.W.methodObj (.ref g) (.ref C)) :: pins) σ H s)
    (r : Vals vs us) (h : sp (.ref C :: vs) H Q (fun cls d H => W cls d σ H)) : wpAny (model X.prog X.w) X.A (call (.ref q) us) (EP X pins σ Q) X.xe s := by
  have z : wpAny (model X.prog X.w) X.A (call (.ref q) us) (EP X ((q, PySem.W.methodObj (.ref g) (.ref C)) :: pins) σ Q) X.xe s :=
    wpAny_call (PySem.W.method_call (ClX.pin_at I) (run_R (us := .ref C :: us) (vs := .ref C :: vs) F hr tk I (.cons rfl r) h))
  exact thn z fun _ _ y => ClX.unpinE y
theorem run_mkR (M : Mk X.K C f) (F : FnR X.prog X.w X.K X.mg X.base (L2.CX X.prog X.w) k f sp) (hr : Room (k + 1) X.A) (tk : Takes X W) (I : Inv X pins σ H s) (r : Vals vs us)
    (h : ∀ x dx, H x = Option.none → H dx = Option.none → dx ≠ x → sp (V.ref x :: vs) (upd (upd H dx (.own x)) x (.ins C dx [])) (fun v H2 => v = .non ∧ Q (.ref x) H2) (fun cls d H => W cls d σ H)) :
    wpAny (model X.prog X.w) X.A (call (.ref C) us) (EP X pins σ Q) X.xe s := by
  have hq := h (s.heap.objs.size + 1) s.heap.objs.size (I.hok.fresh (Nat.le_succ _)) (I.hok.fresh (Nat.le_refl _)) (Nat.ne_of_lt (Nat.lt_succ_self _))
  have I2 := Inv.made (C := C) I
  have r2 : Vals (V.ref (s.heap.objs.size + 1) :: vs) (Value.ref (s.heap.objs.size + 1) :: us) := .cons rfl r
  refine wpAny_call (make_map (f := f) I.kIn M.makes M.init (beq_iff_eq.mp M.fn) (codeAny_mono (F _ X.stack _ _ (Value.ref (s.heap.objs.size + 1) :: us) _ _ _ (hr.make C us []) (I2.env0.make C us []) r2 hq) fun r s' hq' => ?_))
  cases r with
  | error e => exact passAt tk σ pins _ _ e s' I2 hq'
  | ok fl =>
    cases fl with
    | ret u =>
      obtain ⟨v, H', I3, rv, ev, q3⟩ := I2.after hq'
      subst ev
      exact ⟨rv, ⟨V.ref (s.heap.objs.size + 1), H', I3, rfl, q3⟩⟩
    | next => exact False.elim hq'
    | brk => exact False.elim hq'
    | cont => exact False.elim hq'
end
end Ir
end
section
set_option Elab.async false
set_option linter.all false
set_option maxRecDepth 100000
namespace Ir
open PySem PySem.Spec PyProof.Rows L2

/-! ### calls of defs, methods, classes: what they mean -/
def mCal (F : List D → Sto → R D) (fs : Fs) : Fe := fun env s => (fs env s).bind F
def isIns (s : Sto) (d : D) (kc : Nat) (m : Str) : Bool := match look s d with
  | .ins k ks _ => decide (k = kc) && !ks.contains m
  | _ => false
def mOwn (kc : Nat) (m : Str) (F : List D → Sto → R D) (fa : Fe) (fs : Fs) : Fe := fun env s => (fa env s).bind fun d s => if isIns s d kc m = true then (fs env s).bind fun ds s => F (d :: ds) s else .bad
def isCls (d : D) (kc : Nat) : Bool := match d with
  | .cls k => decide (k = kc)
  | _ => false
def mCmt (kc : Nat) (F : List D → Sto → R D) (fa : Fe) (fs : Fs) : Fe := fun env s => (fa env s).bind fun d s => if isCls d kc = true then (fs env s).bind fun ds s => F (.cls kc :: ds) s else .bad
/-- a new instance, __init__ run over it; m: it may change -/
def made (m : Bool) (kc : Nat) (F : List D → Sto → R D) (ds : List D) (s : Sto) : R D := (F (.ref s.length :: ds) (s ++ [.ins kc [] []])).bind fun d s2 => if isNon d = true then (if m = true then .ok (.ref s.length) s2 else leave s s2 (.ref s.length)) else .bad
def mMake (m : Bool) (kc : Nat) (F : List D → Sto → R D) (fs : Fs) : Fe := fun env s => (fs env s).bind fun ds s => made m kc F ds s
def mMkv (m : Bool) (kc : Nat) (F : List D → Sto → R D) (fa : Fe) (fs : Fs) : Fe := fun env s => (fa env s).bind fun d s => if isCls d kc = true then (fs env s).bind fun ds s => made m kc F ds s else .bad
def mCval (kc : Nat) (v : D) (fa : Fe) : Fe := fun env s => (fa env s).bind fun d s => if isCls d kc = true then .ok v s else .bad
def mOpK (kc : Nat) (F : List D → Sto → R D) (fa fb : Fe) : Fe := fun env s => (fa env s).bind fun d s => (fb env s).bind fun e s => if (isIns s d kc "" && isIns s e kc "") = true then F [d, e] s else .bad
def mUnK (kc : Nat) (F : List D → Sto → R D) (fa : Fe) : Fe := fun env s => (fa env s).bind fun d s => if isIns s d kc "" = true then F [d] s else .bad
section
variable {X : Cx} {c : Rc} {W : WX} {k : Nat} {f C p g : Addr} {mc : Value} {a b e o : Expr} {es : List Expr} {fa fb : Fe} {fs : Fs} {pos apos : Pos} {F : List D → Sto → R D} {m : Str} {kc : Nat}
theorem isIns_ok {w : Wd} {s : Sto} {d : D} {v : V} {m : Str} (hs : Rs c w s) (hd : rv c w d v) (h : isIns s d kc m = true) : ∃ x dx fs, v = .ref x ∧ w.H x = some (.ins (c.cl kc) dx fs) ∧ fs.lookup m = none := by
  unfold isIns at h
  split at h
  · rename_i k' ks ds hl
    simp only [Bool.and_eq_true, decide_eq_true_eq, Bool.not_eq_true', List.contains_eq_mem, decide_eq_false_iff_not] at h
    obtain ⟨rfl, hm⟩ := h
    obtain ⟨x, dx, vs, rfl, h1, h2, h3⟩ := ins_view hs hd hl
    refine ⟨x, dx, _, rfl, h1, ?_⟩
    rw [List.lookup_eq_none_iff]
    intro p hp'
    have := (List.of_mem_zip (a := p.1) (b := p.2) hp').1
    rw [bne_iff_ne]
    intro q; exact hm (q ▸ this)
  · cases h
theorem isCls_ok {w : Wd} {d : D} {v : V} (hd : rv c w d v) (h : isCls d kc = true) : v = .ref (c.cl kc) ∧ d = .cls kc := by
  unfold isCls at h
  split at h
  · simp only [decide_eq_true_eq] at h
    subst h
    simp only [rv] at hd
    exact ⟨hd, rfl⟩
  · cases h
theorem spR_of {w : Wd} {ds : List D} {s : Sto} {vs : List V} {σ : L2.St} {Q : VK} (hs : Rs c w s) (r : rvs c w ds vs) (h : post c W σ w (F ds s) Q) : spR c F vs w.H Q (fun cls d H => W cls d σ H) := ⟨w, ds, s, rfl, hs, r, h.wish fun _ _ _ h => h⟩
theorem x_cal {x : Str} {p : Pos} (tk : Takes X W) (K : FnR X.prog X.w X.K X.mg X.base (L2.CX X.prog X.w) k f (spR c F)) (hr : Room k X.A) (hg : Gl X x) (hm : X.mg x = some (.ref f)) (hk : PySem.W.keepIn X.K (.ref f) = true)
    (ha : PA X es (rda c W fs)) (hdb : (x == ("__debug__" : Str)) = false) (hn : noStars es = true) : PE X (.Call (.Name x p) es [] pos) (rd c W (mCal F fs)) := by
  refine ⟨fun pins s σ H Q I ⟨w, env, st, hw, hs, he, hp⟩ => ?_⟩
  subst hw
  refine wpAny_Call_Name_kw (ld_glob I hg hm ?_ hdb)
  refine cw_P (first := []) hk ha hn I ⟨w, env, st, rfl, hs, he, posts_bind hp⟩ fun us s1 vs H1 I1 r ⟨w1, ds, s1, e1, x1, r1, q1, p1⟩ => ?_
  subst e1
  exact wpAny_call (run_R K hr tk I1 r (spR_of r1 q1 p1))
theorem x_mth (hk : c.K = X.K) (tk : Takes X W) (hc : Cls X.K (c.cl kc)) (hm : Meth X.K (c.cl kc) m f) (K : FnR X.prog X.w X.K X.mg X.base (L2.CX X.prog X.w) k f (spR c F)) (hr : Room k X.A)
    (ho : PE X o (rd c W fa)) (ha : PA X es (rda c W fs)) (hb : notSuper o = true) (hl : (apos.endLine == pos.line) = true) (hn : noStars es = true) (hf : es.length < 30) :
    PE X (.Call (.Attribute o m apos) es [] pos) (rd c W (mOwn kc m F fa fs)) := by
  refine ⟨fun pins s σ H Q I ⟨w, env, st, hw, hs, he, hp⟩ => ?_⟩
  subst hw
  refine PySem.W.methodCall_KW (thn (ho.run pins s σ _ _ I ⟨w, env, st, rfl, hs, he, post_bind hp⟩) fun u s1 ⟨x, H1, I1, rx, w1, d, st1, e1, x1, r1, q1, p1⟩ => ?_) (meth_eval hb hl hn hf)
  subst e1
  split at p1
  · rename_i hi
    obtain ⟨y, dx, fl, rfl, h1, h2⟩ := isIns_ok r1 q1 hi
    have hu : u = Value.ref y := rx
    subst hu
    refine getmeth_ok I1 h1 hc hm h2 ?_
    refine cw_P (first := [.ref y]) hm.kp ha hn I1 ⟨w1, env, st1, rfl, r1, he.mono x1, posts_bind p1⟩ fun us s2 vs H2 I2 r ⟨w2, ds, st2, e2, x2, r2, q2, p2⟩ => ?_
    subst e2
    exact wpAny_call (run_R (us := .ref y :: us) (vs := .ref y :: vs) K hr tk I2 (.cons rfl r) (spR_of r2 (.cons (rv.mono x2 _ _ q1) q2) p2))
  · exact p1.elim
theorem x_cmt (hk : c.K = X.K) (tk : Takes X W) (hc : ClX.CRead X.K (c.cl kc) mc) (hm : ClX.CMet X.K (c.cl kc) mc m p f) (K : FnR X.prog X.w X.K X.mg X.base (L2.CX X.prog X.w) k f (spR c F)) (hr : Room k X.A)
    (ho : PE X o (rd c W fa)) (ha : PA X es (rda c W fs)) (hb : notSuper o = true) (hl : (apos.endLine == pos.line) = true) (hn : noStars es = true) (hf : es.length < 30) :
    PE X (.Call (.Attribute o m apos) es [] pos) (rd c W (mCmt kc F fa fs)) := by
  refine ⟨fun pins s σ H Q I ⟨w, env, st, hw, hs, he, hp⟩ => ?_⟩
  subst hw
  refine PySem.W.methodCall_KW (thn (ho.run pins s σ _ _ I ⟨w, env, st, rfl, hs, he, post_bind hp⟩) fun u s1 ⟨x, H1, I1, rx, w1, d, st1, e1, x1, r1, q1, p1⟩ => ?_) (meth_eval hb hl hn hf)
  subst e1
  split at p1
  · rename_i hi
    obtain ⟨rfl, rfl⟩ := isCls_ok q1 hi
    have hu : u = Value.ref (c.cl kc) := rx
    subst hu
    refine ClX.getmethcm_ok I1 hc hm fun s2 I2 => ?_
    refine cw_M hm.fi ha hn I2 ⟨w1, env, st1, rfl, r1, he.mono x1, posts_bind p1⟩ fun us s3 vs H2 I3 r ⟨w2, ds, st2, e2, x2, r2, q2, p2⟩ => ?_
    subst e2
    refine run_cmR K hr tk I3 r (spR_of r2 (.cons ?_ q2) p2)
    simp only [rv]
  · exact p1.elim
theorem post_bind0 {σ : L2.St} {w w' : Wd} {f : R D} {g : D → Sto → R D} {Q : VK} (e0 : Ext w w') (h : post c W σ w (f.bind g) Q) :
    post c W σ w' f fun v H1 => ∃ (w2 : Wd) (d : D) (s' : Sto), w2.H = H1 ∧ Ext w' w2 ∧ Rs c w2 s' ∧ rv c w2 d v ∧ post c W σ w (g d s') Q := by
  cases f with
  | ok d s => exact fun w2 v e r q => ⟨w2, d, s, rfl, e, r, q, h⟩
  | ex k ds s => exact fun w2 dx e r x => h w2 dx (e0.trans e) r x
  | bad => exact h
theorem made_ok {w : Wd} {ds : List D} {s : Sto} {vs : List V} {σ : L2.St} {Q : VK} {m : Bool} (hs : Rs c w s) (r : rvs c w ds vs) (h : post c W σ w (made m kc F ds s) Q) :
    ∀ x dx, w.H x = Option.none → w.H dx = Option.none → dx ≠ x → spR c F (V.ref x :: vs) (upd (upd w.H dx (.own x)) x (.ins (c.cl kc) dx [])) (fun v H2 => v = .non ∧ Q (.ref x) H2) (fun cls d H => W cls d σ H) := by
  intro x dx hx hdx hne
  have r1 : Rs c (w.lay dx (.own x)) s := .lay hs hdx
  have e1 : Ext w (w.lay dx (.own x)) := .lay hs hdx
  have hx1 : (w.lay dx (.own x)).H x = none := (upd_ne (Ne.symm hne)).trans hx
  have r2 : Rs c ((w.lay dx (.own x)).new x (.ins (c.cl kc) dx [])) (s ++ [.ins kc [] []]) := .new r1 hx1 ⟨dx, [], upd_same, rfl, .nil⟩
  have e2 : Ext (w.lay dx (.own x)) ((w.lay dx (.own x)).new x (.ins (c.cl kc) dx [])) := .new r1 hx1
  have hN : s.length = w.N := hs.len.symm
  have q2 : rv c ((w.lay dx (.own x)).new x (.ins (c.cl kc) dx [])) (.ref s.length) (.ref x) := by
    simp only [rv]
    rw [hN]
    exact ⟨Nat.lt_succ_self _, by rw [show w.N = (w.lay dx (.own x)).N from rfl, new_eta]⟩
  refine ⟨_, .ref s.length :: ds, s ++ [.ins kc [] []], rfl, r2, .cons q2 (r.mono (e1.trans e2)), ?_⟩
  unfold made at h
  have e12 := e1.trans e2
  refine ((post_bind0 e12 h).mono fun v H1 ⟨w3, d, s3, e3, x3, r3, q3, p3⟩ => ?_).wish fun _ _ _ h => h
  subst e3
  split at p3
  · rename_i hn
    have hv : v = .non := by
      have := rv_non q3
      rw [hn] at this
      simpa using this
    refine ⟨hv, ?_⟩
    have q4 := rv.mono x3 _ _ q2
    split at p3
    · exact p3 w3 _ (e12.trans x3) r3 q4
    · exact leave_ok hs (e12.trans x3) r3 q4 p3
  · exact p3.elim
theorem x_make {x : Str} {pp : Pos} {m : Bool} (tk : Takes X W) (M : Mk X.K (c.cl kc) f) (K : FnR X.prog X.w X.K X.mg X.base (L2.CX X.prog X.w) k f (spR c F)) (hr : Room (k + 1) X.A) (hg : Gl X x) (hm : X.mg x = some (.ref (c.cl kc)))
    (ha : PA X es (rda c W fs)) (hdb : (x == ("__debug__" : Str)) = false) (hn : noStars es = true) : PE X (.Call (.Name x pp) es [] pos) (rd c W (mMake m kc F fs)) := by
  refine ⟨fun pins s σ H Q I ⟨w, env, st, hw, hs, he, hp⟩ => ?_⟩
  subst hw
  refine wpAny_Call_Name_kw (ld_glob I hg hm ?_ hdb)
  refine cw_P (first := []) M.kp ha hn I ⟨w, env, st, rfl, hs, he, posts_bind hp⟩ fun us s1 vs H1 I1 r ⟨w1, ds, s1', e1, x1, r1, q1, p1⟩ => ?_
  subst e1
  exact run_mkR M K hr tk I1 r (made_ok r1 q1 p1)
/-- x(..), x a name that holds the class -/
theorem x_mkv {e : Expr} {m : Bool} (tk : Takes X W) (M : Mk X.K (c.cl kc) f) (K : FnR X.prog X.w X.K X.mg X.base (L2.CX X.prog X.w) k f (spR c F)) (hr : Room (k + 1) X.A) (ho : PE X e (rd c W fa))
    (ha : PA X es (rda c W fs)) (hn : noStars es = true) (ht : eval (.Call e es [] pos) X.env = (do callWith pos (← eval e X.env) [] (backTo pos (starEach es X.env)) (backToKw pos (keywordEach [] X.env)))) : PE X (.Call e es [] pos) (rd c W (mMkv m kc F fa fs)) := by
  refine ⟨fun pins s σ H Q I ⟨w, env, st, hw, hs, he, hp⟩ => ?_⟩
  subst hw
  refine Call_ (thn (ho.run pins s σ _ _ I ⟨w, env, st, rfl, hs, he, post_bind hp⟩) fun u s1 ⟨x, H1, I1, rx, w1, d, st1, e1, x1, r1, q1, p1⟩ => ?_) ht
  subst e1
  split at p1
  · rename_i hi
    obtain ⟨rfl, rfl⟩ := isCls_ok q1 hi
    have hu : u = Value.ref (c.cl kc) := rx
    subst hu
    refine cw_P (first := []) M.kp ha hn I1 ⟨w1, env, st1, rfl, r1, he.mono x1, posts_bind p1⟩ fun us s2 vs H2 I2 r ⟨w2, ds, s2', e2, x2, r2, q2, p2⟩ => ?_
    subst e2
    exact run_mkR M K hr tk I2 r (made_ok r2 q2 p2)
  · exact p1.elim
theorem x_cval {ff : Str} {v : V} {u : Value} {d : D} (hk : c.K = X.K) (hc : ClX.CRead X.K (c.cl kc) mc) (hv : ClX.CVal X.K (c.cl kc) mc ff v u) (hd : ∀ w, rv c w d v) (ho : PE X o (rd c W fa)) (hb : notSuper o = true) : PE X (.Attribute o ff pos) (rd c W (mCval kc d fa)) := by
  refine (ClX.pe_cval (pos := pos) (f := ff) ho (base_plain hb _)).imp fun σ H Q ⟨w, env, st, hw, hs, he, hp⟩ => ?_
  subst hw
  refine ⟨w, env, st, rfl, hs, he, (post_bind hp).mono fun x H1 ⟨w1, d1, s1, e1, x1, r1, q1, p1⟩ => ?_⟩
  subst e1
  split at p1
  · rename_i hi
    obtain ⟨rfl, rfl⟩ := isCls_ok q1 hi
    exact ⟨_, mc, v, u, rfl, hc, hv, p1 w1 v (.refl w1) r1 (hd w1)⟩
  · exact p1.elim
/-- a class whose operators are its own -/
structure OpK (K : PySem.W.Frag) (C : Addr) (nm : Str) (f : Addr) : Prop where
  first : PySem.W.selfFirst K C = true
  at_ : PySem.W.findIn K (.ref C) nm = some (some (.ref f))
  fn : PySem.W.isFn K (.ref f) = true
theorem ins_at {pins : List (Addr × Obj)} {σ : L2.St} {H : Hp} {s : Shared} {x C dx : Addr} {fs : List (Str × V)} (I : Inv X pins σ H s) (h : H x = some (.ins C dx fs)) : ∃ ox od, PySem.W.InstAt s.heap x ox C od := by
  obtain ⟨mA, O, _⟩ := ins_get I.hok h
  obtain ⟨od, J, _⟩ := O.look
  exact ⟨_, _, J⟩
theorem rv_notNI {w : Wd} {d : D} {v : V} {u : Value} (h : rv c w d v) (r : RelV v u) : u ≠ .notImplemented := by
  rintro rfl
  cases d <;> simp only [rv] at h <;> first
    | (subst h; cases r; done)
    | (subst h; obtain ⟨t, e⟩ := r; cases e; done)
    | (obtain ⟨a, vs, rfl, _⟩ := h; cases r; done)
    | (obtain ⟨a, dx, vs, rfl, _⟩ := h; cases r; done)
    | (obtain ⟨_, rfl⟩ := h; cases r; done)
    | exact h.elim
theorem cmpBack_of {Q : Value → Shared → Prop} {u : Value} {s : Shared} (hn : u ≠ .notImplemented) (h : Q u s) : PySem.W.CmpBack Q u s := by
  unfold PySem.W.CmpBack
  split
  · exact hn rfl
  · exact h
theorem post.rv {σ : L2.St} {w : Wd} {r : R D} {Q : VK} (h : post c W σ w r Q) : post c W σ w r fun v H => (∃ w' d, Ir.rv c w' d v) ∧ Q v H := by
  cases r with
  | ok d s => exact fun w' v e r q => ⟨⟨w', d, q⟩, h w' v e r q⟩
  | ex k ds s => exact h
  | bad => exact h
theorem x_opK {op : Operator} (hk : c.K = X.K) (tk : Takes X W) (O : OpK X.K (c.cl kc) (PySem.dunder op.info.2) f) (K : FnR X.prog X.w X.K X.mg X.base (L2.CX X.prog X.w) k f (spR c F)) (hr : Room k X.A)
    (ha : PE X a (rd c W fa)) (hb : PE X b (rd c W fb)) : PE X (.BinOp a op b pos) (rd c W (mOpK kc F fa fb)) := by
  refine ⟨fun pins s σ H Q I ⟨w, env, st, hw, hs, he, hp⟩ => ?_⟩
  subst hw
  refine wpAny_BinOp (thn (ha.run pins s σ _ _ I ⟨w, env, st, rfl, hs, he, post_bind hp⟩) fun v s1 ⟨x, H1, I1, rx, w1, d, st1, e1, x1, r1, q1, p1⟩ => ?_)
  subst e1
  refine thn (hb.run pins s1 σ _ _ I1 ⟨w1, env, st1, rfl, r1, he.mono x1, post_bind p1⟩) fun u s2 ⟨y, H2, I2, ry, w2, e, st2, e2, x2, r2, q2, p2⟩ => ?_
  subst e2
  split at p2
  · rename_i hh
    simp only [Bool.and_eq_true] at hh
    obtain ⟨xa, dx, fl, rfl, h1, _⟩ := isIns_ok r2 (rv.mono x2 _ _ q1) hh.1
    obtain ⟨ya, dy, gl, rfl, h2, _⟩ := isIns_ok r2 q2 hh.2
    have ev : v = Value.ref xa := rx
    have eu : u = Value.ref ya := ry
    subst ev eu
    obtain ⟨ox, od, J⟩ := ins_at I2 h1
    obtain ⟨oy, ody, Jy⟩ := ins_at I2 h2
    obtain ⟨m, fr⟩ := I2.fr
    refine PySem.W.binop_K fr I2.ok.mod.kin J Jy.type O.first O.at_ O.fn ?_
    have hp3 : post c W σ w2 (F [d, e] st2) Q := p2
    refine thn (wpAny_call (run_R (us := [.ref xa, .ref ya]) (vs := [.ref xa, .ref ya]) K hr tk I2 (.cons rfl (.cons rfl .nil)) (spR_of r2 (.cons (rv.mono x2 _ _ q1) (.cons q2 .nil)) hp3.rv))) fun u3 s3 ⟨v3, H3, I3, r3, ⟨w3, d3, q3⟩, q4⟩ => ?_
    exact cmpBack_of (rv_notNI q3 r3) ⟨v3, H3, I3, r3, q4⟩
  · exact p2.elim
structure UnK (K : PySem.W.Frag) (C : Addr) (nm : Str) (f : Addr) : Prop where
  at_ : PySem.W.findIn K (.ref C) nm = some (some (.ref f))
  fn : PySem.W.isFn K (.ref f) = true
  fi : PySem.W.fnIn K f = true
theorem x_inv (hk : c.K = X.K) (tk : Takes X W) (O : UnK X.K (c.cl kc) "__invert__" f) (K : FnR X.prog X.w X.K X.mg X.base (L2.CX X.prog X.w) k f (spR c F)) (hr : Room k X.A)
    (ha : PE X a (rd c W fa)) : PE X (.UnaryOp .Invert a pos) (rd c W (mUnK kc F fa)) := by
  refine ⟨fun pins s σ H Q I ⟨w, env, st, hw, hs, he, hp⟩ => ?_⟩
  subst hw
  refine UnaryOp_ (thn (ha.run pins s σ _ _ I ⟨w, env, st, rfl, hs, he, post_bind hp⟩) fun v s1 ⟨x, H1, I1, rx, w1, d, st1, e1, x1, r1, q1, p1⟩ => ?_)
  subst e1
  split at p1
  · rename_i hh
    obtain ⟨xa, dx, fl, rfl, h1, _⟩ := isIns_ok r1 q1 hh
    have ev : v = Value.ref xa := rx
    subst ev
    obtain ⟨ox, od, J⟩ := ins_at I1 h1
    obtain ⟨m, fr⟩ := I1.fr
    exact PySem.W.ksp_inv fr I1.ok.mod.kin J O.at_ O.fn (wpAny_call (run_R (us := [.ref xa]) (vs := [.ref xa]) K hr tk I1 (.cons rfl .nil) (spR_of r1 (.cons q1 .nil) p1)))
  · exact p1.elim
def inKR (neg : Bool) (kc : Nat) (F : List D → Sto → R D) (d e : D) (s : Sto) : R D := if isIns s e kc "" = true then (F [e, d] s).bind fun r s => match r with
    | .bl b => .ok (.bl (if neg = true then !b else b)) s
    | _ => .bad else .bad
theorem inK_run {neg : Bool} {op : CmpOp} (hop : op = if neg = true then .NotIn else .In) (hk : c.K = X.K) (tk : Takes X W) (O : UnK X.K (c.cl kc) "__contains__" f) (K : FnR X.prog X.w X.K X.mg X.base (L2.CX X.prog X.w) k f (spR c F)) (hr : Room k X.A)
    {pins : List (Addr × Obj)} {σ : L2.St} {s2 : Shared} {w2 : Wd} {st2 : Sto} {d e : D} {x y : V} {v u : Value} {Q : VK} (I2 : Inv X pins σ w2.H s2) (r2 : Rs c w2 st2) (q1 : Ir.rv c w2 d x) (q2 : Ir.rv c w2 e y) (rx : RelV x v) (ry : RelV y u) (p2 : post c W σ w2 (inKR neg kc F d e st2) Q) :
    wpAny (model X.prog X.w) X.A (compareOp op v u) (EP X pins σ Q) X.xe s2 := by
  unfold inKR at p2
  split at p2
  · rename_i hh
    obtain ⟨ya, dy, gl, rfl, h2, _⟩ := isIns_ok r2 q2 hh
    have eu : u = Value.ref ya := ry
    subst eu
    obtain ⟨oy, ody, Jy⟩ := ins_at I2 h2
    obtain ⟨m, fr⟩ := I2.fr
    have go : wpAny (model X.prog X.w) X.A (call (.ref f) [.ref ya, v]) (fun r s' => wpAny (model X.prog X.w) X.A (truthy r) (fun b => EP X pins σ Q (.bool (if neg = true then !b else b))) X.xe s') X.xe s2 := by
      refine thn (wpAny_call (run_R (us := [.ref ya, v]) (vs := [.ref ya, x]) K hr tk I2 (.cons rfl (.cons rx .nil)) (spR_of r2 (.cons q2 (.cons q1 .nil)) (post_bind p2)))) fun u3 s3 ⟨v3, H3, I3, r3, w3, d3, st3, e3, x3, rs3, q3, p3⟩ => ?_
      subst e3
      cases d3 <;> try exact p3.elim
      simp only [Ir.rv] at q3
      subst q3
      have e3 : u3 = Value.bool _ := r3
      subst e3
      exact wpAny_truthy_bool ⟨.bl _, _, I3, rfl, p3 w3 _ (.refl w3) rs3 rv_bl⟩
    subst hop
    cases neg with
    | true => exact PySem.W.notIn_K fr I2.ok.mod.kin Jy O.at_ O.fn go
    | false => exact PySem.W.in_K fr I2.ok.mod.kin Jy O.at_ O.fn go
  · exact p2.elim
/-- two values, then R of them -/
def mTwo (R2 : D → D → Sto → R D) (fa fb : Fe) : Fe := fun env s => (fa env s).bind fun d s => (fb env s).bind fun e s => R2 d e s
/-- a comparison that runs as it says -/
def CmpRun (X : Cx) (c : Rc) (W : WX) (op : CmpOp) (R2 : D → D → Sto → R D) : Prop := ∀ {pins : List (Addr × Obj)} {σ : L2.St} {s2 : Shared} {w2 : Wd} {st2 : Sto} {d e : D} {x y : V} {v u : Value} {Q : VK}, Inv X pins σ w2.H s2 → Rs c w2 st2 → Ir.rv c w2 d x → Ir.rv c w2 e y → RelV x v → RelV y u → post c W σ w2 (R2 d e st2) Q →
    wpAny (model X.prog X.w) X.A (compareOp op v u) (EP X pins σ Q) X.xe s2
theorem x_cmpRun {op : CmpOp} {R2 : D → D → Sto → R D} (go : CmpRun X c W op R2) (ha : PE X a (rd c W fa)) (hb : PE X b (rd c W fb)) (hm : behindInMarks op b = false) : PE X (.Compare a [op] [b] pos) (rd c W (mTwo R2 fa fb)) := by
  refine ⟨fun pins s σ H Q I ⟨w, env, st, hw, hs, he, hp⟩ => ?_⟩
  subst hw
  refine wpAny_Compare1 (thn (ha.run pins s σ _ _ I ⟨w, env, st, rfl, hs, he, post_bind hp⟩) fun v s1 ⟨x, H1, I1, rx, w1, d, st1, e1, x1, r1, q1, p1⟩ => ?_) hm
  subst e1
  refine thn (hb.run pins s1 σ _ _ I1 ⟨w1, env, st1, rfl, r1, he.mono x1, post_bind p1⟩) fun u s2 ⟨y, H2, I2, ry, w2, e, st2, e2, x2, r2, q2, p2⟩ => ?_
  subst e2
  exact go I2 r2 (rv.mono x2 _ _ q1) q2 rx ry p2
theorem y_cmpRun {op : CmpOp} {R2 : D → D → Sto → R D} (go : CmpRun X c W op R2) (ha : PE X a (rd c W fa)) (hb : PE X b (rd c W fb)) (hm : behindInMarks op b = false) : PT X (.Compare a [op] [b] pos) (rdt c W (tCmpB (mTwo R2 fa fb))) := by
  refine ⟨fun pins s σ H Q I ⟨w, env, st, hw, hs, he, hp⟩ => ?_⟩
  subst hw
  have hp2 := post_bindt hp
  refine wpAny_isTrue_Compare1 (thn (ha.run pins s σ _ _ I ⟨w, env, st, rfl, hs, he, post_bind hp2⟩) fun v s1 ⟨x, H1, I1, rx, w1, d, st1, e1, x1, r1, q1, p1⟩ => ?_) hm
  subst e1
  refine thn (hb.run pins s1 σ _ _ I1 ⟨w1, env, st1, rfl, r1, he.mono x1, post_bind p1⟩) fun u s2 ⟨y, H2, I2, ry, w2, e, st2, e2, x2, r2, q2, p2⟩ => ?_
  subst e2
  refine thn (go I2 r2 (rv.mono x2 _ _ q1) q2 rx ry p2) fun z s3 ⟨zv, H3, I3, r3, w3, d3, st3, e3, x3, rs3, q3, p3⟩ => ?_
  subst e3
  cases d3 <;> try exact p3.elim
  simp only [Ir.rv] at q3
  subst q3
  have e3 : z = Value.bool _ := r3
  subst e3
  exact wpAny_truthy_bool ⟨_, I3, p3 w3 (.refl w3) rs3⟩
end
end Ir
end
section
set_option Elab.async false
set_option linter.all false
set_option maxRecDepth 100000
namespace Ir
open PySem PySem.Spec PySem.Calls PyProof.Rows PySem.W

section
variable {prog : Program} {w : World} {A : Around} {E : Value → Shared → Prop} {s : Shared} {β : Type} {vs : List Value} {bs : List β} {R : Value → β → Prop}
/-- the items of a list or a tuple, the heap's size told -/
theorem items_sized {Qi : List Value → Shared → Prop} (q : Addr) {Ty : String} {oq : Obj} {vq : Array Value} {nq : Nat} (hTy : Ty = "list" ∨ Ty = "tuple") (hq : s.heap.get? q = some oq) (cq : oq.cls = .type Ty) (dq : oq.data = .seq vq nq)
    (hQi : ∀ g, s.heap.objs.size ≤ g.objs.size → (∀ b ob, s.heap.get? b = some ob → g.get? b = some ob) → Qi vq.toList { s with heap := g }) (zq : vq.size ≤ sizeLine) : wpAny (model prog w) A (collect (.ref q)) Qi E s := by
  unfold collect
  refine wpAny_bind (m := runValue _) (wpAny_runValue (codeAny_builtin F.entry_proto_collect ?_))
  rw [Around.under_plainId (id := "proto.collect") F.plain_proto_collect _]
  show wpAny _ A.in1 (newList [] >>= fun new => again (.builtin "list.__iadd__" ⟨[new, .ref q], []⟩)) _ _ s
  refine wpAny_bind (m := newList []) (wpAny_newObj_type ?_)
  refine wpAny_pure (And.intro (plainId_quiet F.plain_list_iadd _) (codeAny_builtin F.entry_list_iadd ?_))
  rw [Around.under_plainId (id := "list.__iadd__") F.plain_list_iadd _]
  show wpAny _ A.in1 (Builtin.List.listExtendWith (.ref s.heap.objs.size) (.ref q) (.ref s.heap.objs.size)) _ _ _
  have at0 : (s.heap.push { cls := .type "list", data := .seq ([] : List Value).toArray }).get? s.heap.objs.size = some { cls := .type "list", data := .seq #[] 0 } := by exact Heap.get?_push_size _ rfl
  have at1 := Heap.get?_update_self (Obj.mapSeq (fun z => z ++ vq)) at0 rfl
  have done_ : wpAny (model prog w) A (match Value.ref s.heap.objs.size with
      | Value.ref a => (do
        match (← load a).data with
          | Data.seq xs _ => pure xs.toList
          | _ => unsupported "internal:collect")
      | _ => unsupported "internal:collect") Qi E { s with heap := (s.heap.push { cls := .type "list", data := .seq ([] : List Value).toArray }).update s.heap.objs.size (Obj.mapSeq (fun z => z ++ vq)) } := by
    show wpAny _ A (load s.heap.objs.size >>= _) _ _ _
    refine wpAny_bind (wpAny_load at1 (wpAny_pure ?_))
    have e0 : ((#[] : Array Value) ++ vq).toList = vq.toList := by simp only [Array.empty_append]
    show Qi ((#[] : Array Value) ++ vq).toList _
    rw [e0]
    refine hQi _ ?_ fun b ob hb => ?_
    · rw [Heap.size_update, Heap.size_push]; exact Nat.le_succ _
    · exact (Heap.get?_update_other _ _ (Nat.ne_of_lt (Heap.lt_size hb)).symm).trans (Heap.get?_push_of_some _ hb)
  refine wpAny_mono (wpAny_extend_seq (hsz := zq) (A := A) (R := fun r t => r = .ok (.ret (.ref s.heap.objs.size)) ∧ t = { s with heap := (s.heap.push { cls := .type "list", data := .seq ([] : List Value).toArray }).update s.heap.objs.size (Obj.mapSeq (fun z => z ++ vq)) })
    (s := { s with heap := s.heap.push { cls := .type "list", data := .seq ([] : List Value).toArray } }) _ q _ 0 hTy at0 (Heap.get?_push_of_some _ hq) cq dq ⟨rfl, rfl⟩) (fun fin t ht => ?_) (fun e t ht => ?_)
  · cases fin with
    | done f =>
      obtain ⟨er, rfl⟩ := ht
      cases er
      exact done_
    | again c' => exact ⟨ht.1, codeAny_mono ht.2 fun r t2 hr => by obtain ⟨rfl, rfl⟩ := hr; exact done_⟩
  · exact absurd ht.1 (by simp)
/-- sorted(xs, ..), xs a list or a tuple: list.sort(..) of a new list of its items -/
theorem sorted_of_sortG {l : Addr} {o : Obj} {T : String} {n : Nat} {kw : List (Str × Value)} {Q : Value → Shared → Prop} (hT : T = "list" ∨ T = "tuple") (ho : s.heap.get? l = some o) (hc : o.cls = .type T) (hd : o.data = .seq vs.toArray n) (hL : vs.length ≤ sizeLine)
    (ha1 : argsOk "sorted" ⟨[.ref l], kw⟩) (ha2 : ∀ x, argsOk "list.sort" ⟨[.ref x], kw⟩)
    (body : ∀ (E' : Value → Shared → Prop) (h' : Heap), s.heap.objs.size ≤ h'.objs.size → (∀ b o', s.heap.get? b = some o' → h'.get? b = some o') → wpAny (model prog w) A.in1.in1 (Builtin.«list.sort» ⟨[.ref h'.objs.size], kw⟩) (fun f s' => f = .done (.ret .none) ∧ Q (.ref h'.objs.size) s') E' { s with heap := h'.push (seqObj "list" vs.toArray 0) }) :
    wpAny (model prog w) A (call (.builtin "sorted") [.ref l] kw) Q E s := by
  refine call_function_entry_kw kind_sorted plain_sorted entry_sorted ha1 ?_
  unfold Builtin.«sorted»
  refine wpAny_bind (m := checkCount "sorted" 1 1 _) (wpAny_pure ?_)
  refine wpAny_bind (items_sized l hT ho hc hd (fun h' hz hk => ?_) (by rw [List.size_toArray]; exact hL))
  refine wpAny_bind (wpAny_newList ?_ (by simpa using hL))
  refine wpAny_bind (wpAny_holding (wpAny_call_entry_kw slot_list_sort ⟨seqObj "list" vs.toArray 0, ?_, rfl⟩ entry_list_sort ?_ (ha2 _)))
  · simpa using Heap.get?_push_size h' (o := seqObj "list" vs.toArray 0) rfl
  · refine wpAny_mono (body _ h' hz hk) (fun f s' hf => ?_) fun _ _ e => e
    obtain ⟨rfl, hq⟩ := hf
    exact ⟨_, rfl, wpAny_pure ⟨_, rfl, hq⟩⟩
theorem sorted_keyG {l : Addr} {o : Obj} {T : String} {n : Nat} {f : Value} {kw : List (Str × Value)} {b : Bool} {Q : Value → Shared → Prop} (k : β → PyData) (hT : T = "list" ∨ T = "tuple") (ho : s.heap.get? l = some o) (hc : o.cls = .type T) (hd : o.data = .seq vs.toArray n)
    (e : EachIs R vs bs) (hal : AllAlike (bs.map k)) (hk : Sortable (bs.map k)) (hL : bs.length ≤ sizeLine)
    (hu : ∀ x, x ∈ bs → A.units + 2 + (k x).depth < cLine) (ha1 : argsOk "sorted" ⟨[.ref l], kw⟩) (ha2 : ∀ x, argsOk "list.sort" ⟨[.ref x], kw⟩) (ht : ∀ x, Builtin.«list.sort» ⟨[.ref x], kw⟩ = ksk_tree x f b)
    (turn : ∀ (v : Value) (x : β), R v x → x ∈ bs → ∀ (h : Heap) (tk : Nat), (∀ b o, s.heap.get? b = some o → h.get? b = some o) →
      wpAny (model prog w) A.in1.in1 (call f [v]) (KeyPure (k x) { s with heap := h, toks := tk }) (fun _ _ => False) { s with heap := h, toks := tk })
    (h : ∀ out c h' tk a, (∀ b o, s.heap.get? b = some o → h'.get? b = some o) → s.heap.objs.size ≤ a → h'.get? a = some (seqObj "list" (List.toArray out) c) → out.length = bs.length → EachIs R out (bs.mergeSort (dataLe b k)) →
      Q (.ref a) { s with heap := h', toks := tk }) :
    wpAny (model prog w) A (call (.builtin "sorted") [.ref l] kw) Q E s := by
  refine sorted_of_sortG hT ho hc hd (by rw [e.length]; exact hL) ha1 ha2 fun E' h0 hsz hk0 => ?_
  have up : ∀ {g : Heap}, KeepsBut h0.objs.size (h0.push (seqObj "list" vs.toArray 0)) g → ∀ b o, s.heap.get? b = some o → g.get? b = some o := fun {g} kp b o q =>
    kp b o (Nat.ne_of_lt (Heap.lt_size (hk0 b o q))) (Heap.get?_push_of_some _ (hk0 b o q))
  rw [ht]
  refine keyH_tree (kz := bs.map k) (s := { s with heap := h0.push (seqObj "list" vs.toArray 0) }) (Heap.get?_push_size h0 rfl) (by rw [List.length_map]; exact e.length.symm) (by rw [e.length]; exact hL) hal hk (bound_map (A := A.in1.in1) hu)
    (keyH_turns (s := { s with heap := h0.push (seqObj "list" vs.toArray 0) }) e fun v x hR hx h tk kp => turn v x hR hx h tk (up kp)) fun h' tk out c kp hD ko => ⟨rfl, ?_⟩
  exact h out c h' tk _ (up kp) hsz hD ((ko.length (by rw [List.length_map]; exact e.length.symm)).trans e.length) (keyedOut_each k ko e)
end
end Ir
end
section
set_option Elab.async false
set_option linter.all false
set_option maxRecDepth 100000
namespace Ir
open PySem PySem.Spec PySem.Calls PyProof.Rows

/-! ### keys told by a lambda -/
/-- nothing is lost -/
def Up (s t : Shared) : Prop := ∃ h' tk, t = { s with heap := h', toks := tk } ∧ ∀ b o, s.heap.get? b = some o → h'.get? b = some o
theorem Up.refl (s : Shared) : Up s s := ⟨s.heap, s.toks, rfl, fun _ _ h => h⟩
theorem Up.tok (s : Shared) (k : Nat) : Up s { s with toks := k } := ⟨s.heap, k, rfl, fun _ _ h => h⟩
theorem Up.trans {a b c : Shared} (x : Up a b) (y : Up b c) : Up a c := by
  obtain ⟨h1, k1, rfl, e1⟩ := x
  obtain ⟨h2, k2, rfl, e2⟩ := y
  exact ⟨h2, k2, rfl, fun p o q => e2 p o (e1 p o q)⟩
theorem Up.get {s t : Shared} (x : Up s t) {b : Addr} {o : Obj} (h : s.heap.get? b = some o) : t.heap.get? b = some o := by
  obtain ⟨h1, k1, rfl, e1⟩ := x
  exact e1 b o h
theorem Up.ns {s t : Shared} (x : Up s t) {a : Addr} {m : Str → Option Value} (h : s.heap.Ns a m) : t.heap.Ns a m := h.keeps fun _ _ q => x.get q
section
variable {prog : Program} {w : World} {A : Around} {E : Value → Shared → Prop} {s : Shared} {env : Env} {x : Str} {v : Value} {Q : Value → Shared → Prop}
/-- a local name of a frame -/
structure LocN (env : Env) (x : Str) (v : Value) (s : Shared) : Prop where
  kind : env.scope.kind = .function
  loc : env.kindOf x = some .local
  ns : ∃ m, s.heap.Ns env.locals m ∧ m x = some v
  nd : (x == ("__debug__" : Str)) = false
theorem LocN.up {s t : Shared} (l : LocN env x v s) (u : Up s t) : LocN env x v t := ⟨l.kind, l.loc, let ⟨m, a, b⟩ := l.ns; ⟨m, u.ns a, b⟩, l.nd⟩
theorem k_name {p : Pos} (l : LocN env x v s) (h : Q v s) : wpAny (model prog w) A (eval (.Name x p) env) Q E s := by
  obtain ⟨m, a, b⟩ := l.ns
  exact wpAny_Name (wpAny_loadName_local l.kind l.loc a b h) l.nd
/-- x[0], x a tuple -/
theorem k_sub0 {t : Addr} {u0 : Value} {rest : List Value} {p1 p2 p3 : Pos} {j : Nat} (l : LocN env x (.ref t) s) (ht : ∃ o, s.heap.get? t = some o ∧ o.cls = .type "tuple" ∧ ∃ n, o.data = .seq (u0 :: rest).toArray n) (h : Q u0 { s with toks := s.toks + 1 }) :
    wpAny (model prog w) A (eval (.Subscript (.Name x p1) (.Constant (.int 0) j p2) p3) env) Q E s := by
  refine Subscript_ (k_name l (wpAny_Constant_int ?_))
  have ht' : PyProof.Rows.IsTup ({ s with toks := s.toks + 1 } : Shared).heap t (u0 :: rest).toArray := ht
  exact subscriptTail_builtinR (x := u0) ht'.typeIs slot_tuple_getitem.lookup (PyProof.Rows.getItem_tuple (j := 0) (Q := fun r s' => r = u0 ∧ Q r s') ht' (by decide) (by decide) (by simp [seqIndex?]) (by simp) ⟨rfl, h⟩)
/-- (x[0] is not None, x[0] or 0) -/
def keyA : Option Int → PyData
  | none => .tuple [.bool false, .int 0]
  | some i => .tuple [.bool true, .int i]
def vOf : Option Int → Value → Prop
  | none, u => u = .none
  | some i, u => ∃ t, u = .int i t
theorem k_A {t : Addr} {u0 : Value} {o0 : Option Int} {rest : List Value} {p1 p2 p3 p4 p5 p6 p7 p8 p9 p10 p11 : Pos} {j1 j2 j3 j4 kt : Nat} (l : LocN env x (.ref t) s) (ht : ∃ o, s.heap.get? t = some o ∧ o.cls = .type "tuple" ∧ ∃ n, o.data = .seq (u0 :: rest).toArray n) (hu : vOf o0 u0) :
    wpAny (model prog w) A (eval (.Tuple [.Compare (.Subscript (.Name x p1) (.Constant (.int 0) j1 p2) p3) [.IsNot] [.Constant .none j2 p4] p5, .BoolOp .Or [.Subscript (.Name x p6) (.Constant (.int 0) j3 p7) p8, .Constant (.int 0) j4 p9] p10] kt p11) env) (fun u t' => Up s t' ∧ Reads t'.heap u (keyA o0) []) E s := by
  refine wpAny_Tuple_spliced ?_
  show wpAny _ _ (spliced ((false, eval _ env) :: (false, eval _ env) :: [])) _ _ _
  refine Calls.spliced_cons (wpAny_Compare1 (k_sub0 l ht (Constant_none (isnot_none_gen ?_))))
  have up1 : Up s { s with toks := s.toks + 1 } := .tok s _
  have l1 := l.up up1
  have ht1 : ∃ o, ({ s with toks := s.toks + 1 } : Shared).heap.get? t = some o ∧ o.cls = .type "tuple" ∧ ∃ n, o.data = .seq (u0 :: rest).toArray n := ht
  have fin : ∀ (b : Bool) (i : Int) (tk : Tok) (s2 : Shared), Up s s2 → keyA o0 = .tuple [.bool b, .int i] → ([Value.bool b, .int i tk]).length ≤ sizeLine ∧ Up s { s2 with heap := s2.heap.push { cls := .type "tuple", data := .seq ([Value.bool b, .int i tk]).toArray } } ∧
      Reads (s2.heap.push { cls := .type "tuple", data := .seq ([Value.bool b, .int i tk]).toArray }) (.ref s2.heap.objs.size) (keyA o0) [] := fun b i tk s2 u2 e => by
    refine ⟨by rw [sizeLine_eq]; exact (by decide : 2 ≤ 16777216), u2.trans ⟨_, s2.toks, rfl, fun b o q => Heap.get?_push_of_some _ q⟩, ?_⟩
    rw [e]
    exact .tuple (Heap.get?_push_size _ rfl) rfl rfl (.cons (.bool b) (.cons (.int i tk) .nil))
  refine Calls.spliced_cons (BoolOp_or (k_sub0 l1 ht1 ?_))
  cases o0 with
  | none =>
    have e : u0 = .none := hu
    subst e
    refine truthy_none ?_
    show wpAny _ _ (eval (.BoolOp .Or [_] _) env) _ _ _
    refine BoolOp_one (wpAny_Constant_int (Calls.spliced_nil ?_))
    exact fin false 0 _ _ ((up1.trans (.tok _ _)).trans (.tok _ _)) rfl
  | some i =>
    obtain ⟨tk, rfl⟩ := hu
    refine PyProof.Rows.truthy_int ?_
    by_cases hi : i = 0
    · subst hi
      show wpAny _ _ (eval (.BoolOp .Or [_] _) env) _ _ _
      refine BoolOp_one (wpAny_Constant_int (Calls.spliced_nil ?_))
      exact fin true 0 _ _ ((up1.trans (.tok _ _)).trans (.tok _ _)) rfl
    · have : (i != 0) = true := by simpa using hi
      rw [if_pos this]
      exact Calls.spliced_nil (fin true i tk _ (up1.trans (.tok _ _)) rfl)
/-- (abs(x), x < 0) -/
def keyB (i : Int) : PyData := .tuple [.int (if i < 0 then -i else i), .bool (decide (i < 0))]
theorem k_B {i : Int} {tk0 : Tok} {mg mb : Str → Option Value} {p1 p2 p3 p4 p5 p6 p7 : Pos} {j1 kt : Nat} (l : LocN env x (.int i tk0) s) (hg : s.heap.Ns env.globals mg) (hb : s.heap.Ns env.builtins mb) (h1 : mg "abs" = none) (h2 : mb "abs" = some (.builtin "abs")) (hx : env.kindOf "abs" = some .globalImplicit) :
    wpAny (model prog w) A (eval (.Tuple [.Call (.Name "abs" p1) [.Name x p2] [] p3, .Compare (.Name x p4) [.Lt] [.Constant (.int 0) j1 p5] p6] kt p7) env) (fun u t' => Up s t' ∧ Reads t'.heap u (keyB i) []) E s := by
  refine wpAny_Tuple_spliced ?_
  show wpAny _ _ (spliced ((false, eval _ env) :: (false, eval _ env) :: [])) _ _ _
  refine Calls.spliced_cons (wpAny_Call_Name_kw (Calls.Name_function_global l.kind hx (Calls.loadGlobal_builtin hg h1 hb h2 ?_)))
  refine PyProof.Rows.callWith_builtin1 ?_ rfl rfl
  show wpAny _ _ (spliced ((false, eval (.Name x p2) env) :: [])) _ _ _
  refine Calls.spliced_cons (k_name l (Calls.spliced_nil (call_abs_int fun ta tk1 => ?_)))
  have up1 : Up s { s with toks := tk1 } := .tok s _
  refine Calls.spliced_cons (wpAny_Compare1 (k_name (l.up up1) (wpAny_Constant_int (PyProof.Rows.lt_int ?_))))
  refine Calls.spliced_nil ⟨by rw [sizeLine_eq]; exact (by decide : 2 ≤ 16777216), (up1.trans (.tok _ _)).trans ⟨_, _, rfl, fun b o q => Heap.get?_push_of_some _ q⟩, ?_⟩
  exact .tuple (Heap.get?_push_size _ rfl) rfl rfl (.cons (.int _ _) (.cons (.bool _) .nil))
/-- a lambda without captured names, called with one value -/
theorem lam_call {name qual : Str} {params : Arguments} {body : Expr} {scope : Scope} {pm ctv : Value} {c' f : Addr} {a : Value} {k : PyData} (hf : s.heap.get? f = some (PySem.W.kla_obj name qual params body scope [] pm c' ctv)) (hc : s.heap.CodeRec (.ref c') qual)
    (hroom : A.depth < recursionLimit) (hlim : s.heap.NoLimit) (hbind : bindArgs (PySem.W.kla_fn name qual params body scope [] pm (.ref c') ctv) ⟨[a], []⟩ = pure [(x, a)]) (hx : scope.names.lookup x = some .local) (hco : scope.isCoroutine = false) (hgen : scope.isGenerator = false)
    (hk : scope.kind = .function) (hcell : ∀ y ∈ scope.names, y.2 ≠ .cell) (hxd : (x == ("__debug__" : Str)) = false)
    (hb : ∀ (A' : Around) (env : Env) (t : Shared), Up s t → LocN env x a t → env.globals = mainGlobals → env.builtins = builtinsNs → env.scope = scope → wpAny (model prog w) A' (eval body env) (fun u t' => Up t t' ∧ Reads t'.heap u k []) (fun _ _ => False) t) :
    wpAny (model prog w) A (call (.ref f) [a]) (PySem.W.KeyPure k s) (fun _ _ => False) s := by
  refine wpAny_call (PySem.W.kla_callFunE hroom hf rfl hco hgen rfl hc ?_)
  rw [hbind]
  refine wpAny_pure (wpAny_newFunctionEnv hcell (fun y hy => ?_) (fun h₁ hns hsb => ⟨hlim.fresh _ hsb, ?_⟩) hk)
  · have : y = (x, a) := by simpa using hy
    rw [this]; exact hx
  · have kp : ∀ b o, s.heap.get? b = some o → h₁.get? b = some o := fun b o e => hsb.extBut b o (Nat.ne_of_lt (Heap.lt_size e)) (Heap.get?_push_of_some _ e)
    refine PySem.W.kla_codeExpr (wpAny_mono (hb _ _ { s with heap := h₁, toks := s.toks + 1 } ⟨h₁, _, rfl, kp⟩ ⟨hk, hx, ⟨_, hns, ?_⟩, hxd⟩ rfl rfl rfl) (fun u t' hq => ?_) fun e t' hq => hq.elim)
    · simp
    · obtain ⟨⟨h2, tk2, rfl, e2⟩, r⟩ := hq
      exact ⟨h2, tk2, rfl, fun b o q => e2 b o (kp b o q), r⟩
end
end Ir
end
section
set_option Elab.async false
set_option linter.all false
set_option maxRecDepth 100000
namespace Ir
open PySem PySem.Spec PyProof.Rows L2

/-! ### sorted(xs, key=lambda ..) -/
inductive Kk where
  | a | b
def Kk.key : Kk → D → Option PyData
  | .a, .tup (.non :: _) => some (keyA none)
  | .a, .tup (.int i :: _) => some (keyA (some i))
  | .b, .int i => some (keyB i)
  | _, _ => none
def kOf (kk : Kk) (d : D) : PyData := (kk.key d).getD .none
def leK (kk : Kk) : D → D → Bool := PySem.W.dataLe false (kOf kk)
def apSort (m : Bool) (kk : Kk) (s : Sto) (d : D) : Po := (seqOf s d).bind fun ds => if ds.all (fun d => (kk.key d).isSome) = true then newL m s (ds.mergeSort (leK kk)) else none
def mSort (m : Bool) (kk : Kk) (fa : Fe) : Fe := fun env s => (fa env s).bind fun d s => ofPo (apSort m kk s d)
/-- the lambda's text -/
def lamIs (kk : Kk) (x : Str) (scope : Scope) : Expr → Bool
  | .Tuple [.Compare (.Subscript (.Name x1 _) (.Constant (.int 0) _ _) _) [.IsNot] [.Constant .none _ _] _, .BoolOp .Or [.Subscript (.Name x2 _) (.Constant (.int 0) _ _) _, .Constant (.int 0) _ _] _] _ _ => (match kk with
    | .a => decide (x1 = x) && decide (x2 = x)
    | _ => false)
  | .Tuple [.Call (.Name ab _) [.Name x1 _] [] _, .Compare (.Name x2 _) [.Lt] [.Constant (.int 0) _ _] _] _ _ => (match kk with
    | .b => decide (x1 = x) && decide (x2 = x) && decide (ab = "abs") && decide (scope.names.lookup ab = some .globalImplicit)
    | _ => false)
  | _ => false
section
variable {X : Cx} {pins : List (Addr × Obj)} {σ : L2.St} {s : Shared} {xn : Xn} {cl : Nat → Addr}
/-- the world behind a lambda's making -/
theorem lam_world {c : Rc} {w : Wd} {st : Sto} {H1 : Hp} (hs : Rs c w st) (e : LamX.ExtN w.H H1) (t : LamX.Tabs c.xn.tb H1) : Ext w { w with H := H1 } ∧ Rs c { w with H := H1 } st := by
  have x : Ext w { w with H := H1 } := by
    refine ⟨Nat.le_refl _, fun _ _ => rfl, fun _ z => z, fun a z => ?_, fun a xs q => e _ _ q fun ps z => (by cases z), fun a o u q => e _ _ q fun ps z => (by cases z)⟩
    obtain ⟨o, q, n⟩ := hs.zs a z
    exact (e _ _ q n).trans q.symm
  refine ⟨x, hs.len, hs.inj, hs.nz, fun a z => ?_, fun i d h => ?_, t, hs.tz⟩
  · obtain ⟨o, q, n⟩ := hs.zs a z
    exact ⟨o, e _ _ q n, n⟩
  · have hi : i < w.N := by rw [hs.len]; exact (List.getElem?_eq_some_iff.mp h).1
    have r := hs.obj i d h
    obtain ⟨o, q, _⟩ := ro.some r
    have nt := r.noTab.1
    rw [q] at nt
    exact r.mono x ((e _ _ q fun ps z => nt ps (by rw [z])).trans q.symm)
theorem each_zip {vs : List V} {us : List Value} (h : Vals vs us) : ∀ {ds : List D}, ds.length = vs.length → PySem.W.EachIs (fun (u : Value) (x : V × D) => RelV x.1 u) us (vs.zip ds) := by
  induction h with
  | nil => intro ds _; exact .nil
  | cons r _ ih =>
    intro ds hl
    cases ds with
    | nil => simp at hl
    | cons d ds => exact .cons r (ih (by simpa using hl))
theorem vals_each {us : List Value} {xs : List (V × D)} (h : PySem.W.EachIs (fun (u : Value) (x : V × D) => RelV x.1 u) us xs) : Vals (xs.map (·.1)) us := by
  induction h with
  | nil => exact .nil
  | cons r _ ih => exact .cons r ih
theorem rvs_zip {c : Rc} {w : Wd} : ∀ {ds : List D} {vs : List V}, rvs c w ds vs → ∀ p ∈ vs.zip ds, rv c w p.2 p.1
  | [], vs, h, p, hp => by cases vs <;> simp at hp
  | d :: ds, vs, h, p, hp => by
    simp only [rvs] at h
    obtain ⟨v, r, rfl, h1, h2⟩ := h
    rcases List.mem_cons.mp hp with e | hp
    · subst e; exact h1
    · exact rvs_zip h2 p hp
theorem rvs_of {c : Rc} {w : Wd} : ∀ {xs : List (V × D)}, (∀ p ∈ xs, rv c w p.2 p.1) → rvs c w (xs.map (·.2)) (xs.map (·.1))
  | [], _ => .nil
  | p :: xs, h => .cons (h p List.mem_cons_self) (rvs_of fun q hq => h q (List.mem_cons_of_mem _ hq))
theorem zip_snd : ∀ {vs : List V} {ds : List D}, ds.length = vs.length → (vs.zip ds).map (·.2) = ds
  | [], [], _ => rfl
  | v :: vs, d :: ds, h => by
    rw [List.zip_cons_cons, List.map_cons, zip_snd (by simpa using h)]
  | [], d :: ds, h => by simp at h
  | v :: vs, [], h => by simp at h
theorem key_shape {kk : Kk} {d : D} (h : (kk.key d).isSome = true) : (kk = .a ∧ ∃ o, kOf kk d = keyA o) ∨ (kk = .b ∧ ∃ i, kOf kk d = keyB i) := by
  unfold kOf
  cases q : kk.key d with
  | none => rw [q] at h; cases h
  | some p =>
    unfold Kk.key at q
    split at q <;> cases q
    · exact .inl ⟨rfl, none, rfl⟩
    · exact .inl ⟨rfl, some _, rfl⟩
    · exact .inr ⟨rfl, _, rfl⟩
theorem keys_alike {kk : Kk} {ds : List D} (h : ds.all (fun d => (kk.key d).isSome) = true) : PySem.W.AllAlike (ds.map (kOf kk)) := by
  intro p hp q hq
  obtain ⟨d, hd, rfl⟩ := List.mem_map.mp hp
  obtain ⟨e, he, rfl⟩ := List.mem_map.mp hq
  rw [List.all_eq_true] at h
  rcases key_shape (h d hd) with ⟨k1, o, e1⟩ | ⟨k1, o, e1⟩ <;> rcases key_shape (h e he) with ⟨k2, o2, e2⟩ | ⟨k2, o2, e2⟩
  · rw [e1, e2]; cases o <;> cases o2 <;> rfl
  · rw [k1] at k2; cases k2
  · rw [k1] at k2; cases k2
  · rw [e1, e2]; rfl
theorem key_depth {kk : Kk} {d : D} (h : (kk.key d).isSome = true) : (kOf kk d).depth ≤ 2 := by
  rcases key_shape h with ⟨_, o, e⟩ | ⟨_, o, e⟩ <;> rw [e]
  · cases o <;> simp [keyA, PyData.depth, PyData.depthAll]
  · simp [keyB, PyData.depth, PyData.depthAll]
theorem lamIs_a {x : Str} {scope : Scope} {body : Expr} (h : lamIs .a x scope body = true) {prog : Program} {w : World} {A : Around} {E : Value → Shared → Prop} {s : Shared} {env : Env} {t : Addr} {u0 : Value} {o0 : Option Int} {rest : List Value} (l : LocN env x (.ref t) s)
    (ht : ∃ o, s.heap.get? t = some o ∧ o.cls = .type "tuple" ∧ ∃ n, o.data = .seq (u0 :: rest).toArray n) (hu : vOf o0 u0) : wpAny (model prog w) A (eval body env) (fun u t' => Up s t' ∧ Reads t'.heap u (keyA o0) []) E s := by
  unfold lamIs at h
  split at h
  · simp only [Bool.and_eq_true, decide_eq_true_eq] at h
    obtain ⟨rfl, rfl⟩ := h
    exact k_A l ht hu
  · cases h
  · cases h
theorem lamIs_b {x : Str} {scope : Scope} {body : Expr} (h : lamIs .b x scope body = true) {prog : Program} {w : World} {A : Around} {E : Value → Shared → Prop} {s : Shared} {env : Env} {i : Int} {tk0 : Tok} {mg mb : Str → Option Value} (l : LocN env x (.int i tk0) s) (hg : s.heap.Ns env.globals mg) (hb : s.heap.Ns env.builtins mb)
    (h1 : mg "abs" = none) (h2 : mb "abs" = some (.builtin "abs")) (hsc : env.scope = scope) : wpAny (model prog w) A (eval body env) (fun u t' => Up s t' ∧ Reads t'.heap u (keyB i) []) E s := by
  unfold lamIs at h
  split at h
  · cases h
  · simp only [Bool.and_eq_true, decide_eq_true_eq] at h
    obtain ⟨⟨⟨rfl, rfl⟩, rfl⟩, hgl⟩ := h
    exact k_B l hg hb h1 h2 (by unfold Env.kindOf; rw [hsc]; exact hgl)
  · cases h
theorem po.ext {c : Rc} {w w' : Wd} {r : Po} {Q : VK} (h : po c w r Q) (e : Ext w w') : po c w' r Q := by
  cases r with
  | none => exact h
  | some q => exact fun w2 v e2 => h w2 v (e.trans e2)
/-- what the making of a lambda in this def asks: its code object, its table -/
structure LamAt (X : Cx) (xn : Xn) (c P : Addr) : Prop where
  tb : LamX.TabB X.base X.mg c P
  mem : (P, X.env.qual ++ "<lambda>") ∈ xn.tb
  uniq : ∀ p ∈ xn.tb, p.1 = P → p.2 = X.env.qual ++ "<lambda>"
theorem x_sort {c : Rc} {W : WX} {m : Bool} {kk : Kk} {k : Nat} {a : Expr} {fa : Fe} {x0 x : Str} {params : Arguments} {body : Expr} {scope : Scope} {p lpos kpos pos : Pos} {cd P : Addr} (hk : c.K = X.K) (hu : X.A.units + 64 < cLine) (hdp : X.A.depth + 5 < recursionLimit) (hg : Gl X x0) (hm : X.mg x0 = none) (hv : bootBuiltins x0 = some (.builtin "sorted")) (hn : x0 ≠ "__name__") (hdb : (x0 == ("__debug__" : Str)) = false) (hab : kk = .b → X.mg "abs" = none)
    (L : LamAt X c.xn cd P) (hcode : X.env.code = .ref cd) (hdef : defaultsOf params X.env = ([], []))
    (hbind : ∀ (q : Str) (pm cv ctv v : Value), bindArgs (PySem.W.kla_fn "<lambda>" q params body scope [] pm cv ctv) ⟨[v], []⟩ = pure [(x, v)])
    (hs1 : scope.kind = .function) (hs2 : scope.isCoroutine = false) (hs3 : scope.isGenerator = false) (hs4 : ∀ y ∈ scope.names, y.2 ≠ .cell ∧ y.2 ≠ .free) (hs5 : scope.names.lookup x = some .local) (hxd : (x == ("__debug__" : Str)) = false) (hbody : lamIs kk x scope body = true)
    (ha : PE X a (rd c W fa)) (hna : isStar a = false) : PE X (.Call (.Name x0 p) [a] [⟨some "key", .Lambda params body scope lpos, kpos⟩] pos) (rd c W (mSort m kk fa)) := by
  refine ⟨fun pins s σ H Q I ⟨w, env, st, hw, hs, he, hp⟩ => ?_⟩
  subst hw
  refine wpAny_Call_Name_kw (ld_blt I hg hm hv ?_ hn hdb)
  have hse : backTo pos (starEach [a] X.env) = (false, eval a X.env) :: backTo pos (starEach [] X.env) := by rw [star_one hna]; rfl
  refine PyProof.Rows.callWith_kw ?_ hse (by rw [hse]; rfl) rfl rfl
  rw [hse]
  refine Calls.spliced_cons (thn (ha.run pins s σ _ _ I ⟨w, env, st, rfl, hs, he, post_bind hp⟩) fun v s1 ⟨xv, H1, I1, rx, w1, d, st1, e1, x1, r1, q1, p1⟩ => ?_)
  subst e1
  refine Calls.spliced_nil ?_
  have p1 := post_of p1
  obtain ⟨ds, hseq, p1⟩ := po_bind p1
  obtain ⟨hall, p1⟩ := po_if p1
  have hfree : ∀ y ∈ scope.names, y.2 = .free → ∃ c, X.env.cells.lookup y.1 = some c := fun y hy e => absurd e (hs4 y hy).2
  have hclo : cloFrom X.env.cells scope.names [] = [] := by
    have : ∀ (l : List (Str × NameKind)), (∀ y ∈ l, y.2 ≠ .free) → cloFrom X.env.cells l [] = [] := by
      intro l
      induction l with
      | nil => intro _; rfl
      | cons y l ih =>
        intro h
        obtain ⟨n, kd⟩ := y
        unfold cloFrom
        have hne : kd ≠ .free := h _ List.mem_cons_self
        rw [if_neg (by simpa using hne)]
        exact ih fun z hz => h z (List.mem_cons_of_mem _ hz)
    exact this _ fun y hy => (hs4 y hy).2
  show wpAny _ _ (evalAll [do let v ← eval (.Lambda params body scope lpos) X.env; standAt pos; pure v]) _ _ _
  refine wpAny_evalAll_cons (wpAny_bind (LamX.lam_make2 I1 L.tb hcode L.mem L.uniq r1.tabs hdef hfree fun f c' pm ctv H2 s2 I2 eN T2 hf hfn hfr hco => ?_))
  refine wpAny_bind (wpAny_standAt (wpAny_pure ?_))
  refine wpAny_evalAll_nil ?_
  obtain ⟨x2, r2⟩ := lam_world r1 eN T2
  obtain ⟨l, vs, rfl, hl, rl⟩ := seq_view r2 (rv.mono x2 _ _ q1) hseq
  have ev : v = Value.ref l := rx
  subst ev
  have hl : SqL X.K H2 l vs ∨ SqT X.K H2 l vs := hk ▸ hl
  have hlen : ds.length = vs.length := rl.length
  obtain ⟨its, T, o, n, rvl, hT, ho, hc, hd, hz⟩ : ∃ (its : List Value) (T : String) (o : Obj) (n : Nat), Vals vs its ∧ (T = "list" ∨ T = "tuple") ∧ s2.heap.get? l = some o ∧ o.cls = .type T ∧ o.data = .seq its.toArray n ∧ vs.length ≤ sizeLine := by
    rcases hl with hl | hl
    · obtain ⟨its, rvl, pl, hz⟩ := I2.list hl
      obtain ⟨o, ho, hc, n, hd⟩ := pl.isList
      exact ⟨its, "list", o, n, rvl, .inl rfl, ho, hc, hd, hz⟩
    · obtain ⟨its, rvl, pl, hz⟩ := I2.tuple hl
      obtain ⟨o, ho, hc, n, hd⟩ := pl
      exact ⟨its, "tuple", o, n, rvl, .inr rfl, ho, hc, hd, hz⟩
  have hsnd : (vs.zip ds).map (·.2) = ds := zip_snd hlen
  have hmap : (vs.zip ds).map (fun x : V × D => kOf kk x.2) = ds.map (kOf kk) := by
    conv => rhs; rw [← hsnd]
    rw [List.map_map]
    rfl
  have hallm := List.all_eq_true.mp hall
  have hzl : (vs.zip ds).length ≤ sizeLine := by rw [List.length_zip]; omega
  show wpAny _ _ (call (.builtin "sorted") [.ref l] [(Str.ofString "key", .ref f)]) _ _ _
  refine sorted_keyG (β := V × D) (R := fun (u : Value) (x : V × D) => RelV x.1 u) (bs := vs.zip ds) (b := false) (fun x => kOf kk x.2) hT ho hc hd (each_zip rvl hlen) (by rw [hmap]; exact keys_alike hall) (.inl fun p hp => ?_) hzl (fun p hp => ?_) (ksk_s1 _ _) (fun _ => ksk_l1 _ _) (fun _ => ksk_t1 _ _) (fun v p hR hx h tk kp => ?_) fun out c0 h' tk pa kp hpa hget hol heach => ?_
  · rw [hmap] at hp
    obtain ⟨d', hd', rfl⟩ := List.mem_map.mp hp
    rcases key_shape (hallm d' hd') with ⟨_, o', e⟩ | ⟨_, o', e⟩
    · cases o' <;> exact ⟨_, _, e⟩
    · exact ⟨_, _, e⟩
  · have := key_depth (hallm p.2 (List.of_mem_zip (a := p.1) (b := p.2) hp).2)
    omega
  · have hrv : rv c { w1 with H := H2 } p.2 p.1 := rvs_zip rl p hx
    have hks := hallm p.2 (List.of_mem_zip (a := p.1) (b := p.2) hx).2
    obtain ⟨⟨oc, cvs, ct, hoc, hdc, hvc⟩, _, _⟩ := I2.hok c' _ hco
    rw [hclo] at hf
    refine lam_call (s := { s2 with heap := h, toks := tk }) (x := x) (kp _ _ hf) ⟨c', oc, cvs, ct, rfl, kp _ _ hoc, hdc, hvc⟩ (show X.A.depth < _ by omega) (I2.nolimit.keeps kp) (hbind _ _ _ _ _) hs5 hs2 hs3 hs1 (fun y hy => (hs4 y hy).1) hxd fun A' env t up lN eg eb es => ?_
    have upk : ∀ b ob, s2.heap.get? b = some ob → t.heap.get? b = some ob := fun b ob q => up.get (kp b ob q)
    cases kk with
    | a =>
      have go : ∀ (d0 : D) (dr : List D) (o0 : Option Int), p.2 = .tup (d0 :: dr) → (∀ u0 v0, rv c { w1 with H := H2 } d0 v0 → RelV v0 u0 → vOf o0 u0) → kOf .a p.2 = keyA o0 → wpAny (model X.prog X.w) A' (eval body env) (fun u t' => Up t t' ∧ Reads t'.heap u (kOf .a p.2) []) (fun _ _ => False) t := fun d0 dr o0 e1 e2 e3 => by
        rw [e1] at hrv
        simp only [rv] at hrv
        obtain ⟨ta, tvs, e4, h5, h6⟩ := hrv
        rw [e4] at hR
        have e7 : v = Value.ref ta := hR
        subst e7
        simp only [rvs] at h6
        obtain ⟨v0, vr, rfl, h7, h8⟩ := h6
        have h5' : SqT X.K H2 ta (v0 :: vr) := hk ▸ h5.sq
        obtain ⟨tits, trv, tpl, tz⟩ := I2.tuple h5'
        cases trv with
        | cons ra rb =>
          rw [e3]
          obtain ⟨ob, h9, h10, n1, h11⟩ := tpl
          exact lamIs_a hbody lN ⟨ob, upk _ _ h9, h10, n1, h11⟩ (e2 _ _ h7 ra)
      have hks' := hks
      unfold Kk.key at hks'
      split at hks'
      · rename_i e
        exact go _ _ none e (fun u0 v0 h r => by
          simp only [rv] at h
          subst h
          exact r) (by rw [e]; rfl)
      · rename_i i dr _ e
        exact go _ _ (some i) e (fun u0 v0 h r => by
          simp only [rv] at h
          subst h
          exact r) (by rw [e]; rfl)
      · rename_i h0 _ ; cases h0
      · cases hks'
    | b =>
      have hks' := hks
      unfold Kk.key at hks'
      split at hks'
      · rename_i h0 _; cases h0
      · rename_i h0 _; cases h0
      · rename_i i _ e
        have e2 : kOf .b p.2 = keyB i := by rw [e]; rfl
        rw [e] at hrv
        simp only [rv] at hrv
        rw [hrv] at hR
        obtain ⟨tk0, e3⟩ : ∃ tk0, v = Value.int i tk0 := hR
        subst e3
        obtain ⟨mb, b1, b2⟩ := I2.ok.mod.blt
        rw [e2]
        exact lamIs_b (mg := X.mg) (mb := mb) hbody lN (by rw [eg]; exact (I2.ok.mod.glob.keeps I2.bk).keeps upk) (by rw [eb]; exact (b1.keeps I2.bk).keeps upk) (hab rfl) ((b2 "abs" (by decide)).trans rfl) es
      · cases hks'
  · have hperm : ∀ q : V × D, q ∈ (vs.zip ds).mergeSort (PySem.W.dataLe false fun x : V × D => kOf kk x.2) → q ∈ vs.zip ds := fun q hq => (List.mergeSort_perm (vs.zip ds) (PySem.W.dataLe false fun x : V × D => kOf kk x.2)).mem_iff.mp hq
    have hrs : rvs c { w1 with H := H2 } (((vs.zip ds).mergeSort (PySem.W.dataLe false fun x : V × D => kOf kk x.2)).map (·.2)) (((vs.zip ds).mergeSort (PySem.W.dataLe false fun x : V × D => kOf kk x.2)).map (·.1)) :=
      rvs_of fun q hq => rvs_zip rl q (hperm q hq)
    have hD : ((vs.zip ds).mergeSort (PySem.W.dataLe false fun x : V × D => kOf kk x.2)).map (·.2) = ds.mergeSort (leK kk) := by
      have e := List.map_mergeSort (r := PySem.W.dataLe false fun x : V × D => kOf kk x.2) (s := leK kk) (f := fun x : V × D => x.2) (l := vs.zip ds) (fun a _ b _ => rfl)
      rw [hsnd] at e
      exact e
    rw [hD] at hrs
    have hn2 : H2 pa = none := I2.hok.fresh hpa
    refine ⟨.ref pa, upd H2 pa (.lst _), I2.laid (t' := tk) (fun b ob q => kp b ob q) hpa ⟨?_, out, c0, vals_each heach, hget⟩, rfl, po_newL r2 hrs hn2 (p1.ext x2)⟩
    rw [List.length_map, List.length_mergeSort]; exact hzl
end
end Ir
end
section
set_option Elab.async false
set_option linter.all false
set_option maxRecDepth 100000
namespace Ir
open PySem PySem.Spec PyProof.Rows L2

/-! ### slices -/
def cutA {α : Type} (xs : List α) (lo hi : Option Int) : List α := (xs.drop (HT.sIx xs.length 0 lo)).take (HT.sIx xs.length xs.length hi - HT.sIx xs.length 0 lo)
def apSl (m : Bool) (s : Sto) (d : D) (lo hi : Option Int) : Po := match look s d with
  | .lst ds => newL m s (cutA ds lo hi)
  | .klst ds => newL m s (cutA ds lo hi)
  | .tup ds => newT s (cutA ds lo hi)
  | _ => none
def optI (f : Option Fe) (env : Ev) (s : Sto) : R (Option Int) := match f with
  | none => .ok none s
  | some f => (f env s).bind fun d s => match d with
    | .int i => .ok (some i) s
    | _ => .bad
def mSl (m : Bool) (fa : Fe) (fl fh : Option Fe) : Fe := fun env s => (fa env s).bind fun d s => (optI fl env s).bind fun lo s => (optI fh env s).bind fun hi s => ofPo (apSl m s d lo hi)
def rsl (c : Rc) (m : Bool) : V → Option Int → Option Int → Hp → VK → Prop := fun x lo hi H Q => ∃ (w : Wd) (s : Sto) (d : D), w.H = H ∧ Rs c w s ∧ rv c w d x ∧ po c w (apSl m s d lo hi) Q
section
variable {X : Cx} {c : Rc} {W : WX} {a e : Expr} {fa f : Fe} {lo hi : Option Expr} {fl fh : Option Fe} {pos p2 : Pos} {cl : Nat → Addr} {xn : Xn}
theorem rvs_cutA {w : Wd} {ds : List D} {vs : List V} {lo hi : Option Int} (r : rvs c w ds vs) : rvs c w (cutA ds lo hi) (cutV vs lo hi) := by
  unfold cutA cutV
  rw [r.length]
  exact (r.drop _).take _
theorem cutA_whole {ds : List D} {lo hi : Option Int} (h : HT.sIx ds.length 0 lo = 0 ∧ HT.sIx ds.length ds.length hi = ds.length) : cutA ds lo hi = ds := by
  unfold cutA
  rw [h.1, h.2]
  simp
theorem slr_ok {m : Bool} : SlR X (rsl (cx X cl xn) m) := by
  intro pins s σ H x v vl vu lo hi sl Q I rx hs pl pu h
  obtain ⟨w, st, d, rfl, hs1, hd, hp⟩ := h
  unfold apSl at hp
  split at hp
  · obtain ⟨b, vs, rfl, hb, rb⟩ := look_lst hs1 hd (by assumption)
    exact sl_list pins s σ w.H _ v vl vu lo hi sl Q I rx hs pl pu ⟨b, vs, rfl, hb, fun p hn => po_newL hs1 (rvs_cutA rb) hn hp⟩
  · obtain ⟨b, vs, rfl, hb, rb⟩ := klst_view hs1 hd (by assumption)
    exact sl_list pins s σ w.H _ v vl vu lo hi sl Q I rx hs pl pu ⟨b, vs, rfl, hb, fun p hn => po_newL hs1 (rvs_cutA rb) hn hp⟩
  · rename_i ds hl
    obtain ⟨b, vs, rfl, hb, rb⟩ := tup_view hs1 hd hl
    refine sl_tupA pins s σ w.H _ v vl vu lo hi sl Q I rx hs pl pu ⟨b, vs, rfl, hb.sq, fun hw => ?_, fun _ p hn => po_newT hs1 (rvs_cutA rb) hn hp⟩
    rw [← rb.length] at hw
    rw [cutA_whole hw] at hp
    exact hp w _ (.refl w) hs1 (by simp only [rv]; exact ⟨b, vs, rfl, hb, rb⟩)
  · exact hp.elim
def opI (c : Rc) (W : WX) (f : Option Fe) : TO := match f with
  | none => tNoPart
  | some f => tPart (rd c W f)
inductive PoI (X : Cx) (c : Rc) (W : WX) : Option Expr → Option Fe → Prop where
  | no : PoI X c W none none
  | yes {e : Expr} {f : Fe} (h : PE X e (rd c W f)) : PoI X c W (some e) (some f)
theorem PoI.po (h : PoI X c W lo fl) : PO X lo (opI c W fl) := by
  cases h with
  | no => exact po_none
  | yes h => exact po_some h
def postO (c : Rc) (W : WX) (σ : L2.St) (w : Wd) (r : R (Option Int)) (Q : Option Int → Hp → Prop) : Prop := match r with
  | .ok o s => ∀ (w' : Wd), Ext w w' → Rs c w' s → Q o w'.H
  | .ex k ds s => ∀ (w' : Wd) (dx : Addr), Ext w w' → Rs c w' s → xr c w' k ds dx → W (.ref (c.cl k)) (some dx) σ w'.H
  | .bad => False
theorem opt_bind {σ : L2.St} {w : Wd} {env : Ev} {s : Sto} {g : Option Int → Sto → R D} {Q : VK} {fl : Option Fe} (hs : Rs c w s) (he : re c w env σ) (h : post c W σ w ((optI fl env s).bind g) Q) :
    opI c W fl σ w.H fun o H1 => ∃ (w' : Wd) (s' : Sto), w'.H = H1 ∧ Ext w w' ∧ Rs c w' s' ∧ post c W σ w' (g o s') Q := by
  cases fl with
  | none => exact ⟨w, s, rfl, .refl w, hs, h⟩
  | some f =>
    refine ⟨w, env, s, rfl, hs, he, ?_⟩
    have h' : post c W σ w ((f env s).bind fun d s => R.bind (match d with
      | .int i => .ok (some i) s
      | _ => .bad) g) Q := by
      have e : ((optI (some f) env s).bind g) = (f env s).bind fun d s => R.bind (match d with
        | .int i => .ok (some i) s
        | _ => .bad) g := by
        show ((f env s).bind _).bind g = _
        cases f env s <;> rfl
      rw [← e]; exact h
    refine (post_bind h').mono fun x H1 ⟨w1, d, s1, e1, x1, r1, q1, p1⟩ => ?_
    subst e1
    cases d <;> try exact p1.elim
    simp only [rv] at q1
    exact ⟨_, q1, w1, s1, rfl, x1, r1, p1⟩
theorem opI_mono {fl : Option Fe} {σ : L2.St} {H : Hp} {Q Q' : Option Int → Hp → Prop} (h : opI c W fl σ H Q) (k : ∀ o H, Q o H → Q' o H) : opI c W fl σ H Q' := by
  cases fl with
  | none => exact k _ _ h
  | some f =>
    obtain ⟨w, env, s, hw, hs, he, hp⟩ := h
    exact ⟨w, env, s, hw, hs, he, hp.mono fun v H ⟨i, e, q⟩ => ⟨i, e, k _ _ q⟩⟩
theorem x_sl {m : Bool} (ha : PE X a (rd (cx X cl xn) W fa)) (hl : PoI X (cx X cl xn) W lo fl) (hh : PoI X (cx X cl xn) W hi fh) : PE X (.Subscript a (.Slice lo hi none p2) pos) (rd (cx X cl xn) W (mSl m fa fl fh)) :=
  (pe_slice (slr_ok (m := m) (cl := cl) (xn := xn)) ha hl.po hh.po).imp fun σ H Q ⟨w, env, s, hw, hs, he, hp⟩ => by
  subst hw
  refine ⟨w, env, s, rfl, hs, he, (post_bind hp).mono fun x H1 ⟨w1, d, s1, e1, x1, r1, q1, p1⟩ => ?_⟩
  subst e1
  refine opI_mono (opt_bind r1 (he.mono x1) p1) fun l H2 ⟨w2, s2, e2, x2, r2, p2⟩ => ?_
  subst e2
  refine opI_mono (opt_bind r2 ((he.mono x1).mono x2) p2) fun u H3 ⟨w3, s3, e3, x3, r3, p3⟩ => ?_
  exact ⟨w3, s3, d, e3, r3, rv.mono (x2.trans x3) _ _ q1, post_of p3⟩
end
end Ir
end
section
set_option Elab.async false
set_option linter.all false
set_option maxRecDepth 100000
namespace Ir
open PySem PySem.Spec PyProof.Rows L2

/-! ### == and != by an own __eq__; bool() by an own __bool__ -/
def plainTs : List String := ["NoneType", "bool", "int", "str", "tuple", "list"]
/-- != of the class is that of object; the class stands under object -/
structure NeD (K : PySem.W.Frag) (C : Addr) : Prop where
  ne : PySem.W.findIn K (.ref C) "__ne__" = some (some (.builtin "object.__ne__"))
  ob : PySem.W.mroIn K C (.type "object") = some true
  pl : ∀ n, plainTs.contains n = true → PySem.W.subIn K (.ref C) (.type n) = some false
/-- the right side is of the class itself, or of a plain built-in one -/
def eqR (s : Sto) (e : D) (kc : Nat) : Bool := match tvD s e with
  | some (.c k) => decide (k = kc)
  | some (.t n) => plainTs.contains n
  | none => false
def eqOp (neg : Bool) : CmpOp := if neg = true then .NotEq else .Eq
def blR (neg : Bool) (r : D) (s : Sto) : R D := match r with
  | .bl b => .ok (.bl (if neg = true then !b else b)) s
  | _ => .bad
def eqKR (neg : Bool) (kc : Nat) (F : List D → Sto → R D) (d e : D) (s : Sto) : R D := if (isIns s d kc "" && eqR s e kc) = true then (F [d, e] s).bind fun r s => blR neg r s else .bad
def mBok (kc : Nat) (F : List D → Sto → R D) (fa : Fe) : Fe := fun env s => (fa env s).bind fun d s => if isIns s d kc "" = true then (F [d] s).bind fun r s => blR false r s else .bad
section
variable {X : Cx} {c : Rc} {W : WX} {k : Nat} {f : Addr} {F : List D → Sto → R D} {kc : Nat} {pins : List (Addr × Obj)} {σ : L2.St} {H : Hp} {s : Shared} {Q : VK} {us : List Value} {vs : List V} {sp : Sp} {a : Expr} {pos : Pos} {fa : Fe}
/-- a def, called some builtins deeper -/
theorem run_RA {A : Around} (hf : A.frames = X.A.frames) (F : FnR X.prog X.w X.K X.mg X.base (L2.CX X.prog X.w) k f sp) (hr : Room k A) (tk : Takes X W) (I : Inv X pins σ H s) (r : Vals vs us) (h : sp vs H Q (fun cls d H => W cls d σ H)) :
    codeAny (model X.prog X.w) A (.call (.ref f) ⟨us, []⟩) (fun r s' => match r with | .ok (.ret v) => EP X pins σ Q v s' | .ok _ => False | .error e => X.xe e s') s := by
  have e0 : Env0 X.prog X.w X.K X.mg X.base A X.stack s H := by
    have e := I.env0
    exact ⟨hf.trans e.frames, e.mod, e.bs, e.bsz, e.funs, e.frf, e.hok, e.bare⟩
  refine codeAny_mono (F A X.stack s H us vs Q _ hr e0 r h) fun r s' hq => ?_
  cases r with
  | error e => exact passAt tk σ pins H s e s' I hq
  | ok fl =>
    cases fl with
    | ret u => exact I.after hq
    | next => exact False.elim hq
    | brk => exact False.elim hq
    | cont => exact False.elim hq
theorem fast_no {n : String} {C : Addr} (h : plainTs.contains n = true) : PySem.W.subIn X.K (.type n) (.ref C) = some false := by
  have go : ∀ n l, fastBuiltinMro n = some l → l.contains (Value.ref C) = false → PySem.W.subIn X.K (.type n) (.ref C) = some false := fun n l e1 e2 => by
    show (fastBuiltinMro n).map (·.contains (.ref C)) = some false
    rw [e1, Option.map_some, e2]
  simp only [plainTs, List.contains_cons, List.contains_nil, Bool.or_false, Bool.or_eq_true, beq_iff_eq] at h
  rcases h with rfl | rfl | rfl | rfl | rfl | rfl
  · exact go _ [.type "NoneType", .type "object"] (by decide +kernel) (by simp)
  · exact go _ [.type "bool", .type "int", .type "object"] (by decide +kernel) (by simp)
  · exact go _ [.type "int", .type "object"] (by decide +kernel) (by simp)
  · exact go _ [.type "str", .type "object"] (by decide +kernel) (by simp)
  · exact go _ [.type "tuple", .type "object"] (by decide +kernel) (by simp)
  · exact go _ [.type "list", .type "object"] (by decide +kernel) (by simp)
theorem looks_is {M : Model} {s : Shared} {v : Value} {T : String} (h : s.TypeIs v T) : PySem.W.Looks M s.heap (typeOf v) (.type T) := fun A Q E s' k q => wpAny_typeOf (s := s') (T := T) (by
  cases v with
  | ref a => obtain ⟨o, ho, hc⟩ := h; exact ⟨o, k _ _ ho, hc⟩
  | _ => exact h) q
/-- what the right side's type is -/
theorem eqR_view {w : Wd} {st : Sto} {e : D} {y : V} {u : Value} {M : Model} (I : Inv X pins σ w.H s) (hk : c.K = X.K) (hs : Rs c w st) (he : Ir.rv c w e y) (ry : RelV y u) (h : eqR st e kc = true) : ∃ tb, PySem.W.Looks M s.heap (typeOf u) tb ∧ PySem.W.notFirst X.K (c.cl kc) tb = true := by
  unfold eqR at h
  split at h
  · rename_i k' ht
    simp only [decide_eq_true_eq] at h
    subst h
    unfold tvD at ht
    split at ht <;> cases ht
    rename_i hl
    obtain ⟨a, dx, vs, rfl, h1, h2, h3⟩ := ins_view hs he hl
    have eu : u = Value.ref a := ry
    subst eu
    obtain ⟨oy, ody, J⟩ := ins_at I h1
    exact ⟨_, J.type, by simp [PySem.W.notFirst]⟩
  · rename_i n ht
    have hb : L2.TyB X.K w.H y n := by
      unfold tvD at ht
      split at ht <;> cases ht
      · rename_i hl
        have e := look_flat hs he hl fun _ h => h
        subst e; simp only [Ir.rv] at he; subst he; exact .non
      · rename_i hl
        have e := look_flat hs he hl fun _ h => h
        subst e; simp only [Ir.rv] at he; subst he; exact .bl _
      · rename_i hl
        have e := look_flat hs he hl fun _ h => h
        subst e; simp only [Ir.rv] at he; subst he; exact .int _
      · rename_i hl
        have e := look_flat hs he hl fun _ h => h
        subst e; simp only [Ir.rv] at he; subst he; exact .str _
      · rename_i hl
        obtain ⟨a, vs, rfl, ha, ra⟩ := tup_view hs he hl
        exact .tup (hk ▸ ha.sq)
      · rename_i hl
        obtain ⟨a, vs, rfl, ha, ra⟩ := lst_view hs he hl
        exact .lst (.inl (.inl ha))
      · exact absurd h (by decide)
    exact ⟨_, looks_is (hb.is I ry), by
      unfold PySem.W.notFirst
      rw [fast_no h]
      simp⟩
  · cases h
theorem blR_ok {neg : Bool} {w : Wd} {d : D} {st : Sto} {v : V} {u : Value} (hd : Ir.rv c w d v) (r : RelV v u) (h : post c W σ w (blR neg d st) Q) : ∃ b, u = .bool b ∧ post c W σ w (.ok (.bl (if neg = true then !b else b)) st) Q := by
  unfold blR at h
  split at h
  · simp only [Ir.rv] at hd
    subst hd
    exact ⟨_, r, h⟩
  · exact h.elim
theorem ifBound_ne {M : Model} {A : Around} {E : Value → Shared → Prop} {K : PySem.W.Frag} {x C : Addr} {ox : Obj} {od : Option Obj} {args : List Value} {Q : Option Value → Shared → Prop} (Xs : K.In s.heap) (J : PySem.W.InstAt s.heap x ox C od) (hs : PySem.W.findIn K (.ref C) "__ne__" = some (some (.builtin "object.__ne__")))
    (h : wpAny M A (call (.builtin "object.__ne__") (.ref x :: args)) (fun v => Q (some v)) E s) : wpAny M A (callSpecialIfBound? (.ref x) "__ne__" args) Q E s := by
  simp only [callSpecialIfBound?, bindSpecialIfBound?]
  refine wpAny_holding (wpAny_bind (wpAny_bind (wpAny_bind (J.type.here ((PySem.W.looks_findIn Xs hs).here ?_)))))
  refine wpAny_bind (wpAny_askSetting (wpAny_ite ?_))
  have out : wpAny M A (call (.builtin "object.__ne__") ([.ref x] ++ args) >>= fun v => pure (some v)) Q E s := wpAny_bind (wpAny_mono h (fun v s' z => wpAny_pure z) fun _ _ z => z)
  split
  · exact wpAny_bind (wpAny_of_eq (PySem.F.cmp_object.ne.bind _) (wpAny_pure (by exact out)))
  · exact wpAny_tryCatch (wpAny_bind (wpAny_of_eq (PySem.F.cmp_object.ne.bind _) (wpAny_pure (by exact out))))
theorem eqK_run {neg : Bool} {op : CmpOp} (hop : op = eqOp neg) (hk : c.K = X.K) (tk : Takes X W) (O : UnK X.K (c.cl kc) "__eq__" f) (N : NeD X.K (c.cl kc)) (K : FnR X.prog X.w X.K X.mg X.base (L2.CX X.prog X.w) k f (spR c F)) (hr : Room (k + 1) X.A) :
    CmpRun X c W op (eqKR neg kc F) := by
  intro pins σ s2 w2 st2 d e x y v u Q I2 r2 q1 q2 rx ry p2
  unfold eqKR at p2
  split at p2
  · rename_i hh
    simp only [Bool.and_eq_true] at hh
    obtain ⟨xa, dx, fl, rfl, h1, _⟩ := isIns_ok r2 q1 hh.1
    have ev : v = Value.ref xa := rx
    subst ev
    obtain ⟨ox, od, J⟩ := ins_at I2 h1
    obtain ⟨m, fr⟩ := I2.fr
    obtain ⟨tb, lk, nf⟩ := eqR_view (M := model X.prog X.w) I2 hk r2 q2 ry hh.2
    have hsp : spR c F [.ref xa, y] w2.H (fun v3 H3 => ∃ (w3 : Wd) (d3 : D) (s3 : Sto), w3.H = H3 ∧ Ext w2 w3 ∧ Rs c w3 s3 ∧ Ir.rv c w3 d3 v3 ∧ post c W σ w3 (blR neg d3 s3) Q) (fun cls d H => W cls d σ H) := spR_of r2 (.cons q1 (.cons q2 .nil)) (post_bind p2)
    have hrv : Vals [V.ref xa, y] [Value.ref xa, u] := .cons rfl (.cons ry .nil)
    cases neg with
    | false =>
      subst hop
      refine PySem.W.cmp_K (op := .Eq) (tb := tb) hr.units0 fr I2.ok.mod.kin J lk nf O.at_ O.fn (thn (wpAny_call (run_R K (hr.mono (Nat.le_succ k)) tk I2 hrv hsp)) fun u3 s3 ⟨v3, H3, I3, r3, w3, d3, st3, e3, x3, rs3, q3, p3⟩ => ?_)
      subst e3
      obtain ⟨b, rfl, p4⟩ := blR_ok q3 r3 p3
      exact ⟨.bl b, _, I3, rfl, p4 w3 _ (.refl w3) rs3 rv_bl⟩
    | true =>
      subst hop
      have Xs := I2.ok.mod.kin.keeps fr.keep
      have hin : X.A.units + 1 < cLine := by have := hr.un; omega
      -- the own def, one builtin deeper
      have deep : ∀ Q' : Option Value → Shared → Prop, (∀ b s3, EP X pins σ Q (.bool (!b)) s3 → Q' (some (.bool b)) s3) → wpAny (model X.prog X.w) X.A.in1 (callSpecialIfBound? (.ref xa) "__eq__" [u]) Q' X.xe s2 := fun Q' hQ => by
        refine PySem.W.ifBound_K Xs J O.at_ O.fn (wpAny_call (codeAny_mono (run_RA (A := X.A.in1) rfl K hr.in1 tk I2 hrv hsp) fun r s3 h => ?_))
        cases r with
        | error e => exact h
        | ok fl =>
          cases fl with
          | ret u3 =>
            obtain ⟨v3, H3, I3, r3, w3, d3, st3, e3, x3, rs3, q3, p3⟩ := h
            subst e3
            obtain ⟨b, rfl, p4⟩ := blR_ok q3 r3 p3
            exact hQ b s3 ⟨.bl (!b), _, I3, rfl, p4 w3 _ (.refl w3) rs3 rv_bl⟩
          | next => exact False.elim h
          | brk => exact False.elim h
          | cont => exact False.elim h
      have body : wpAny (model X.prog X.w) X.A.in1 (Builtin.«object.__ne__» ⟨[.ref xa, u], []⟩) (fun fin s' => match fin with | .done f => (match f with | .ret v => ∃ b, v = .bool b ∧ EP X pins σ Q v s' | _ => False) | .again _ => False) X.xe s2 := by
        unfold Builtin.«object.__ne__»
        have hu2 : X.A.in1.units < cLine := hin
        repeat (first | with_reducible refine wpAny_cRoomFor hu2 ?_ | with_reducible refine deep _ (fun b s3 h3 => ?_) | wp_step)
        exact ⟨_, rfl, h3⟩
      have one : wpAny (model X.prog X.w) X.A (tryCompare (.ref xa) "__ne__" u) (fun r s' => ∃ v, r = some v ∧ EP X pins σ Q v s') X.xe s2 := by
        unfold tryCompare
        refine wpAny_bind (ifBound_ne Xs J N.ne (wpAny_call (codeAny_call_builtin PySem.F.cmp_object.ne.plain PySem.F.cmpEntry_ne (PySem.W.check_slot PySem.F.cmpKind_ne PySem.F.cmpSplit_ne (J.type.andThen (PySem.W.looks_mroIn Xs N.ob)) (PySem.F.cmpArgs_ne _ _) (wpAny_mono body (fun fin s' h => ?_) fun _ _ h => h)))))
        cases fin with
        | again c' => exact h.elim
        | done fl =>
          cases fl with
          | ret v =>
            obtain ⟨b, rfl, h⟩ := h
            exact wpAny_pure ⟨_, rfl, h⟩
          | next => exact h.elim
          | brk => exact h.elim
          | cont => exact h.elim
      show wpAny (model X.prog X.w) X.A (richCompare .NotEq (.ref xa) u) (EP X pins σ Q) X.xe s2
      unfold richCompare
      simp only [oneThing_ref]
      refine wpAny_holding (wpAny_bind (wpAny_cRoomFor hr.units0 (wpAny_bind (J.type.here (wpAny_bind (lk.here ?_))))))
      have fin : ∀ {R : Option Value → Shared → Prop}, (∀ v s', EP X pins σ Q v s' → R (some v) s') → wpAny (model X.prog X.w) X.A (tryCompare (.ref xa) "__ne__" u) R X.xe s2 := fun h => wpAny_mono one (fun r s' ⟨v, hv, q⟩ => hv ▸ h v s' q) fun _ _ h => h
      split
      · rename_i q
        have nn : PySem.W.subIn X.K tb (.ref (c.cl kc)) = some false := by
          rcases Bool.or_eq_true_iff.mp nf with z | z
          · rw [beq_iff_eq.mp z] at q
            simp at q
          · exact beq_iff_eq.mp z
        refine wpAny_bind ((PySem.W.looks_subIn Xs nn).here ?_)
        rw [if_neg (by decide)]
        exact wpAny_bind (fin fun v s' q => wpAny_pure q)
      · refine wpAny_bind (wpAny_pure ?_)
        rw [if_neg (by decide)]
        exact wpAny_bind (fin fun v s' q => wpAny_pure q)
  · exact p2.elim
theorem meets_bool_own {prog : Program} {w : World} {x : Addr} : MeetsIn prog w (Builtin.«bool.__new__» ⟨[.type "bool", .ref x], []⟩) (fun A R s => wpAny (model prog w) A.in1 (truthy (.ref x)) (fun b s' => R (.ok (.ret (.bool b))) s') (fun e s' => R (.error e) s') s) :=
  MeetsIn.of_wp fun A R s hs => by
    have go : ∀ (Q' : Bool → Shared → Prop) (E' : Value → Shared → Prop), (∀ b s', R (.ok (.ret (.bool b))) s' → Q' b s') → (∀ e s', R (.error e) s' → E' e s') → wpAny (model prog w) A.in1 (truthy (.ref x)) Q' E' s := fun Q' E' h1 h2 => wpAny_mono hs h1 h2
    clear hs
    obtain ⟨hp, g, d, tk, os⟩ := s
    have f1 := PySem.F.conv_sub_bool
    repeat (any_goals (first | assumption | (with_reducible refine go _ _ (fun b s' h => ?_) (fun e s' h => ?_)) | wp_step))
    all_goals first | exact ⟨_, rfl, h⟩ | exact h | skip
/-- bool(x), x an instance with its own __bool__ -/
theorem x_bok {x0 : Str} {p : Pos} (tk : Takes X W) (hk : c.K = X.K) (O : UnK X.K (c.cl kc) "__bool__" f) (K : FnR X.prog X.w X.K X.mg X.base (L2.CX X.prog X.w) k f (spR c F)) (hr : Room (k + 1) X.A)
    (hg : Gl X x0) (hm : X.mg x0 = none) (hv : bootBuiltins x0 = some (.type "bool")) (hnm : x0 ≠ "__name__") (hdb : (x0 == ("__debug__" : Str)) = false) (ha : PE X a (rd c W fa)) (hs : starEach [a] X.env = (false, eval a X.env) :: starEach [] X.env) : PE X (.Call (.Name x0 p) [a] [] pos) (rd c W (mBok kc F fa)) := by
  refine ⟨fun pins s σ H Q I ⟨w, env, st, hw, hst, he, hp⟩ => ?_⟩
  subst hw
  refine wpAny_Call_Name_kw (ld_blt I hg hm hv ?_ hnm hdb)
  have hq : rda c W (sCons fa sNil) σ w.H fun vs H1 => ∃ (w1 : Wd) (d : D) (s1 : Sto) (x : V), w1.H = H1 ∧ vs = [x] ∧ Rs c w1 s1 ∧ Ir.rv c w1 d x ∧ post c W σ w1 (if isIns s1 d kc "" = true then (F [d] s1).bind fun r s => blR false r s else .bad) Q := by
    refine ⟨w, env, st, rfl, hst, he, ?_⟩
    unfold mBok at hp
    show posts c W σ w ((fa env st).bind fun d s => .ok [d] s) _
    cases hf : fa env st with
    | bad => rw [hf] at hp; exact hp
    | ex n ds s1 => rw [hf] at hp; exact hp
    | ok d s1 =>
      rw [hf] at hp
      have hp : post c W σ w (if isIns s1 d kc "" = true then (F [d] s1).bind fun r s => blR false r s else .bad) Q := hp
      intro w1 vs e1 r1 q1
      obtain ⟨x, rfl, q2⟩ := rvs1 q1
      exact ⟨w1, d, s1, x, rfl, rfl, r1, q2, hp.ext e1⟩
  refine PyProof.Rows.callWith_type1 (thn ((x_cons ha x_nil hs).run pos pins s σ _ _ I hq) fun us s1 ⟨vs, H1, I1, r1, w1, d, st1, x, e1, e2, rs1, q1, p1⟩ => ?_) hs (by rfl)
  subst e1 e2
  split at p1
  · rename_i hi
    obtain ⟨xa, dx, fl, rfl, h1, _⟩ := isIns_ok rs1 q1 hi
    obtain rfl := Vals.ref1 r1
    obtain ⟨ox, od, J⟩ := ins_at I1 h1
    obtain ⟨m, fr⟩ := I1.fr
    have hsp : spR c F [.ref xa] w1.H (fun v3 H3 => ∃ (w3 : Wd) (d3 : D) (s3 : Sto), w3.H = H3 ∧ Ext w1 w3 ∧ Rs c w3 s3 ∧ Ir.rv c w3 d3 v3 ∧ post c W σ w3 (blR false d3 s3) Q) (fun cls d H => W cls d σ H) := spR_of rs1 (.cons q1 .nil) (post_bind p1)
    refine callType_newIn PySem.F.called_bool PySem.F.newNe_bool (PySem.F.typeCall_bool_1 _) (PySem.F.newCall_bool_1 _) (fun obj => PySem.F.args_object_init_2 obj _) PySem.F.entry_bool_new meets_bool_own ?_
    refine PySem.W.truthy_K fr I1.ok.mod.kin J O.at_ O.fn (wpAny_call (codeAny_mono (run_RA (A := X.A.in1.in1) (us := [.ref xa]) (vs := [.ref xa]) rfl K hr.in2 tk I1 (.cons rfl .nil) hsp) fun r s3 h => ?_))
    cases r with
    | error e => exact h
    | ok fl =>
      cases fl with
      | ret u3 =>
        obtain ⟨v3, H3, I3, r3, w3, d3, st3, e3, x3, rs3, q3, p3⟩ := h
        subst e3
        obtain ⟨b, rfl, p4⟩ := blR_ok q3 r3 p3
        exact ⟨rfl, .bl b, _, I3, rfl, p4 w3 _ (.refl w3) rs3 rv_bl⟩
      | next => exact False.elim h
      | brk => exact False.elim h
      | cont => exact False.elim h
  · exact p1.elim
end
end Ir
end
section
set_option Elab.async false
set_option linter.all false
set_option maxRecDepth 100000
/-! a plain left side and an instance at the right of == and != -/
namespace Ir
open PySem PySem.Spec PyProof.Rows L2
section
variable {prog : Program} {w : World} {A : Around} {E : Value → Shared → Prop} {s : Shared} {x C dx : Addr} {K : PySem.W.Frag} {od : Option Obj}
def Dec (prog : Program) (w : World) (A : Around) (E : Value → Shared → Prop) (s : Shared) (id : String) (v : Value) (x : Addr) : Prop :=
  wpAny (model prog w) A (call (.builtin id) [v, .ref x]) (fun r s' => r = .notImplemented ∧ s' = s) E s
theorem dec_int {n : Int} {t : Tok} (hx : s.heap.get? x = some (PySem.W.instObj C dx)) : Dec prog w A E s "int.__eq__" (.int n t) x ∧ Dec prog w A E s "int.__ne__" (.int n t) x := by
  obtain ⟨hp, g, d, tk, os⟩ := s
  constructor
  · refine GQ.call_here F.slot_int_eq rfl F.entry_int_eq (F.args_int_eq_2 _ _) ?_
    unfold Builtin.«int.__eq__»
    wp_walk using AutoSeq1.wpAny_loadPart' hx
    exact ⟨rfl, rfl⟩
  · refine GQ.call_here F.slot_int_ne rfl F.entry_int_ne (F.args_int_ne_2 _ _) ?_
    unfold Builtin.«int.__ne__»
    wp_walk using AutoSeq1.wpAny_loadPart' hx
    exact ⟨rfl, rfl⟩
theorem dec_bool {b : Bool} (hx : s.heap.get? x = some (PySem.W.instObj C dx)) : Dec prog w A E s "int.__eq__" (.bool b) x ∧ Dec prog w A E s "int.__ne__" (.bool b) x := by
  obtain ⟨hp, g, d, tk, os⟩ := s
  constructor
  · refine GQ.call_here F.slot_bool_eq rfl F.entry_int_eq (F.args_int_eq_2 _ _) ?_
    unfold Builtin.«int.__eq__»
    wp_walk using AutoSeq1.wpAny_loadPart' hx
    exact ⟨rfl, rfl⟩
  · refine GQ.call_here F.slot_bool_ne rfl F.entry_int_ne (F.args_int_ne_2 _ _) ?_
    unfold Builtin.«int.__ne__»
    wp_walk using AutoSeq1.wpAny_loadPart' hx
    exact ⟨rfl, rfl⟩
theorem dec_none (hx : s.heap.get? x = some (PySem.W.instObj C dx)) : Dec prog w A E s "NoneType.__eq__" .none x ∧ Dec prog w A E s "NoneType.__ne__" .none x := by
  obtain ⟨hp, g, d, tk, os⟩ := s
  constructor
  · refine GQ.call_here F.slot_NoneType_eq rfl F.entry_NoneType_eq (F.args_NoneType_eq_2 _ _) ?_
    unfold Builtin.«NoneType.__eq__»
    wp_walk
    exact ⟨rfl, rfl⟩
  · refine GQ.call_here F.slot_NoneType_ne rfl F.entry_NoneType_ne (F.args_NoneType_ne_2 _ _) ?_
    unfold Builtin.«NoneType.__ne__»
    wp_walk
    exact ⟨rfl, rfl⟩
theorem dec_str {z : Str} {t : Tok} (hx : s.heap.get? x = some (PySem.W.instObj C dx)) : Dec prog w A E s "str.__eq__" (.str z t) x ∧ Dec prog w A E s "str.__ne__" (.str z t) x := by
  obtain ⟨hp, g, d, tk, os⟩ := s
  constructor
  · refine GQ.call_here F.slot_str_eq rfl F.entry_str_eq (F.args_str_eq_2 _ _) ?_
    unfold Builtin.«str.__eq__»
    wp_walk using AutoSeq1.wpAny_loadPart' hx
    exact ⟨rfl, rfl⟩
  · refine GQ.call_here F.slot_str_ne rfl F.entry_str_ne (F.args_str_ne_2 _ _) ?_
    unfold Builtin.«str.__ne__»
    wp_walk using AutoSeq1.wpAny_loadPart' hx
    exact ⟨rfl, rfl⟩
theorem dec_tup {a : Addr} {xs : Array Value} (ht : s.heap.IsTuple a xs) (X : K.In s.heap) (J : PySem.W.InstAt s.heap x (PySem.W.instObj C dx) C od) (hs : PySem.W.subIn K (.ref C) (.type "tuple") = some false) : Dec prog w A E s "tuple.__eq__" (.ref a) x ∧ Dec prog w A E s "tuple.__ne__" (.ref a) x := by
  obtain ⟨hp, g, d, tk, os⟩ := s
  have lk : PySem.W.Looks (model prog w) hp (isInstance (.ref x) (.type "tuple")) false := J.type.andThen (PySem.W.looks_subIn X hs)
  have no : ∀ {A' : Around} {E' : Value → Shared → Prop} {Q : Bool → Shared → Prop}, Q false ⟨hp, g, d, tk, os⟩ → wpAny (model prog w) A' (isInstance (.ref x) (.type "tuple")) Q E' ⟨hp, g, d, tk, os⟩ := fun q => lk.here q
  constructor
  · refine GQ.call_here F.slot_tuple_eq ht.typeIs F.entry_tuple_eq (F.args_tuple_eq_2 _ _) ?_
    unfold Builtin.«tuple.__eq__»
    wp_walk using no
    exact ⟨rfl, rfl⟩
  · refine GQ.call_here F.slot_tuple_ne ht.typeIs F.entry_tuple_ne (F.args_tuple_ne_2 _ _) ?_
    unfold Builtin.«tuple.__ne__»
    wp_walk using no
    exact ⟨rfl, rfl⟩
theorem dec_list {a : Addr} {xs : Array Value} (ht : s.heap.IsList a xs) (X : K.In s.heap) (J : PySem.W.InstAt s.heap x (PySem.W.instObj C dx) C od) (hs : PySem.W.subIn K (.ref C) (.type "list") = some false) : Dec prog w A E s "list.__eq__" (.ref a) x ∧ Dec prog w A E s "list.__ne__" (.ref a) x := by
  obtain ⟨hp, g, d, tk, os⟩ := s
  have lk : PySem.W.Looks (model prog w) hp (isInstance (.ref x) (.type "list")) false := J.type.andThen (PySem.W.looks_subIn X hs)
  have no : ∀ {A' : Around} {E' : Value → Shared → Prop} {Q : Bool → Shared → Prop}, Q false ⟨hp, g, d, tk, os⟩ → wpAny (model prog w) A' (isInstance (.ref x) (.type "list")) Q E' ⟨hp, g, d, tk, os⟩ := fun q => lk.here q
  have hT : Shared.TypeIs ⟨hp, g, d, tk, os⟩ (.ref a) "list" := by obtain ⟨o, h1, h2, _⟩ := ht; exact ⟨o, h1, h2⟩
  constructor
  · refine GQ.call_here F.slot_list_eq hT F.entry_list_eq (F.args_list_eq_2 _ _) ?_
    unfold Builtin.«list.__eq__»
    wp_walk using no
    exact ⟨rfl, rfl⟩
  · refine GQ.call_here F.slot_list_ne hT F.entry_list_ne (F.args_list_ne_2 _ _) ?_
    unfold Builtin.«list.__ne__»
    wp_walk using no
    exact ⟨rfl, rfl⟩
end
/-- a plain datum -/
def plainL (s : Sto) (d : D) : Bool := match tvD s d with
  | some (.t n) => plainTs.contains n
  | _ => false
section
variable {X : Cx} {c : Rc} {W : WX} {k : Nat} {f : Addr} {F : List D → Sto → R D} {kc : Nat} {pins : List (Addr × Obj)} {σ : L2.St} {H : Hp} {s : Shared} {Q : VK}
theorem plain_dec {w : Wd} {st : Sto} {d : D} {x : V} {v : Value} {xa C dx : Addr} {od : Option Obj} (I : Inv X pins σ w.H s) (hk : c.K = X.K) (hs : Rs c w st) (he : Ir.rv c w d x) (rx : RelV x v) (h : plainL st d = true)
    (Xs : X.K.In s.heap) (J : PySem.W.InstAt s.heap xa (PySem.W.instObj C dx) C od) (pl : ∀ n, plainTs.contains n = true → PySem.W.subIn X.K (.ref C) (.type n) = some false) :
    ∃ T e1 e2, s.TypeIs v T ∧ Slot T "__eq__" e1 ∧ Slot T "__ne__" e2 ∧ plainTs.contains T = true ∧ ∀ (A : Around) (E : Value → Shared → Prop), Dec X.prog X.w A E s e1 v xa ∧ Dec X.prog X.w A E s e2 v xa := by
  unfold plainL at h
  split at h
  · rename_i n ht
    have hx := J.at_
    unfold tvD at ht
    split at ht <;> cases ht
    · rename_i hl
      have e := look_flat hs he hl fun _ h => h
      subst e; simp only [Ir.rv] at he; subst he
      have ev : v = .none := rx
      subst ev
      exact ⟨"NoneType", _, _, rfl, F.slot_NoneType_eq, F.slot_NoneType_ne, by decide, fun A E => dec_none hx⟩
    · rename_i hl
      have e := look_flat hs he hl fun _ h => h
      subst e; simp only [Ir.rv] at he; subst he
      have ev : v = .bool _ := rx
      subst ev
      exact ⟨"bool", _, _, rfl, F.slot_bool_eq, F.slot_bool_ne, by decide, fun A E => dec_bool hx⟩
    · rename_i hl
      have e := look_flat hs he hl fun _ h => h
      subst e; simp only [Ir.rv] at he; subst he
      obtain ⟨t, ev⟩ := rx
      subst ev
      exact ⟨"int", _, _, rfl, F.slot_int_eq, F.slot_int_ne, by decide, fun A E => dec_int hx⟩
    · rename_i hl
      have e := look_flat hs he hl fun _ h => h
      subst e; simp only [Ir.rv] at he; subst he
      obtain ⟨t, ev⟩ := rx
      subst ev
      exact ⟨"str", _, _, rfl, F.slot_str_eq, F.slot_str_ne, by decide, fun A E => dec_str hx⟩
    · rename_i hl
      obtain ⟨a, vs, rfl, ha, ra⟩ := tup_view hs he hl
      have ev : v = .ref a := rx
      subst ev
      obtain ⟨its, rv', p, _⟩ := I.tuple (hk ▸ ha.sq)
      have p' : s.heap.IsTuple a its.toArray := p
      exact ⟨"tuple", _, _, p'.typeIs, F.slot_tuple_eq, F.slot_tuple_ne, by decide, fun A E => dec_tup p' Xs J (pl _ (by decide))⟩
    · rename_i hl
      obtain ⟨a, vs, rfl, ha, ra⟩ := lst_view hs he hl
      have ev : v = .ref a := rx
      subst ev
      obtain ⟨its, rv', p, _⟩ := I.list (.inl (.inl ha))
      exact ⟨"list", _, _, by obtain ⟨o, h1, h2, _⟩ := p.isList; exact ⟨o, h1, h2⟩, F.slot_list_eq, F.slot_list_ne, by decide, fun A E => dec_list p.isList Xs J (pl _ (by decide))⟩
    · exact absurd h (by decide)
  · cases h
def eqLR (neg : Bool) (kc : Nat) (F : List D → Sto → R D) (d e : D) (s : Sto) : R D := if (plainL s d && isIns s e kc "") = true then (F [e, d] s).bind fun r s => blR neg r s else .bad
theorem eqL_run {neg : Bool} {op : CmpOp} (hop : op = eqOp neg) (hk : c.K = X.K) (tk : Takes X W) (O : UnK X.K (c.cl kc) "__eq__" f) (N : NeD X.K (c.cl kc))
    (K : FnR X.prog X.w X.K X.mg X.base (L2.CX X.prog X.w) k f (spR c F)) (hr : Room (k + 1) X.A) : CmpRun X c W op (eqLR neg kc F) := by
  intro pins σ s2 w2 st2 d e x y v u Q I2 r2 q1 q2 rx ry p2
  unfold eqLR at p2
  split at p2
  · rename_i hh
    simp only [Bool.and_eq_true] at hh
    obtain ⟨xa, dx, fl, rfl, h1, _⟩ := isIns_ok r2 q2 hh.2
    have eu : u = Value.ref xa := ry
    subst eu
    obtain ⟨ox, od, J⟩ := ins_at I2 h1
    have hx := (I2.hok _ _ h1).2.2.2.1
    have eo : ox = PySem.W.instObj (c.cl kc) dx := Option.some.inj (J.at_.symm.trans hx)
    subst eo
    obtain ⟨m, fr⟩ := I2.fr
    have Xs := I2.ok.mod.kin.keeps fr.keep
    obtain ⟨T, e1, e2, hT, sl1, sl2, hp, hdec⟩ := plain_dec I2 hk r2 q1 rx hh.1 Xs J N.pl
    have hsp : spR c F [.ref xa, x] w2.H (fun v3 H3 => ∃ (w3 : Wd) (d3 : D) (s3 : Sto), w3.H = H3 ∧ Ext w2 w3 ∧ Rs c w3 s3 ∧ Ir.rv c w3 d3 v3 ∧ post c W σ w3 (blR neg d3 s3) Q) (fun cls d H => W cls d σ H) := spR_of r2 (.cons q2 (.cons q1 .nil)) (post_bind p2)
    have hrv : Vals [V.ref xa, x] [Value.ref xa, v] := .cons rfl (.cons rx .nil)
    have lk : PySem.W.Looks (model X.prog X.w) s2.heap (typeOf v) (.type T) := looks_is hT
    have sub := N.pl T hp
    -- the plain side declines, the instance answers
    have both : ∀ (op : CmpOp) (id : String), Slot T (cmpInfo op).2.1 id → (∀ (A : Around) (E : Value → Shared → Prop), Dec X.prog X.w A E s2 id v xa) →
        wpAny (model X.prog X.w) X.A (tryCompare (.ref xa) (cmpInfo op).2.2 v) (fun r s' => ∃ v, r = some v ∧ EP X pins σ Q v s') X.xe s2 → wpAny (model X.prog X.w) X.A (richCompare op v (.ref xa)) (EP X pins σ Q) X.xe s2 := fun op id sl dc own => by
      have ot : oneThing? op v (.ref xa) = none := by cases v <;> rfl
      unfold richCompare
      simp only [ot]
      refine wpAny_holding (wpAny_bind (wpAny_cRoomFor hr.units0 (wpAny_bind (lk.here (wpAny_bind (J.type.here ?_))))))
      rw [if_pos (show (Value.type T != Value.ref (c.cl kc)) = true from rfl)]
      refine wpAny_bind ((PySem.W.looks_subIn Xs sub).here ?_)
      rw [if_neg (by decide)]
      refine wpAny_bind (wpAny_tryCompare_declines hT sl (wpAny_mono (dc _ _) (fun r s' hq => ⟨hq.1, ?_⟩) fun _ _ h => h))
      obtain ⟨_, rfl⟩ := hq
      rw [if_pos (by decide)]
      refine wpAny_bind (wpAny_mono own (fun r s' hq => ?_) fun _ _ h => h)
      obtain ⟨v', rfl, hq⟩ := hq
      exact wpAny_pure hq
    cases neg with
    | false =>
      subst hop
      refine both .Eq e1 sl1 (fun A E => (hdec A E).1) ?_
      unfold tryCompare
      refine wpAny_bind (PySem.W.ifBound_K Xs J O.at_ O.fn (wpAny_call (codeAny_mono (run_RA (A := X.A) rfl K (hr.mono (Nat.le_succ k)) tk I2 hrv hsp) fun r s3 h => ?_)))
      cases r with
      | error e => exact h
      | ok fl =>
        cases fl with
        | ret u3 =>
          obtain ⟨v3, H3, I3, r3, w3, d3, st3, e3, x3, rs3, q3, p3⟩ := h
          subst e3
          obtain ⟨b, rfl, p4⟩ := blR_ok q3 r3 p3
          exact wpAny_pure ⟨_, rfl, .bl b, _, I3, rfl, p4 w3 _ (.refl w3) rs3 rv_bl⟩
        | next => exact False.elim h
        | brk => exact False.elim h
        | cont => exact False.elim h
    | true =>
      subst hop
      have hin : X.A.units + 1 < cLine := by have := hr.un; omega
      refine both .NotEq e2 sl2 (fun A E => (hdec A E).2) ?_
      have deep : ∀ Q' : Option Value → Shared → Prop, (∀ b s3, EP X pins σ Q (.bool (!b)) s3 → Q' (some (.bool b)) s3) → wpAny (model X.prog X.w) X.A.in1 (callSpecialIfBound? (.ref xa) "__eq__" [v]) Q' X.xe s2 := fun Q' hQ => by
        refine PySem.W.ifBound_K Xs J O.at_ O.fn (wpAny_call (codeAny_mono (run_RA (A := X.A.in1) rfl K hr.in1 tk I2 hrv hsp) fun r s3 h => ?_))
        cases r with
        | error e => exact h
        | ok fl =>
          cases fl with
          | ret u3 =>
            obtain ⟨v3, H3, I3, r3, w3, d3, st3, e3, x3, rs3, q3, p3⟩ := h
            subst e3
            obtain ⟨b, rfl, p4⟩ := blR_ok q3 r3 p3
            exact hQ b s3 ⟨.bl (!b), _, I3, rfl, p4 w3 _ (.refl w3) rs3 rv_bl⟩
          | next => exact False.elim h
          | brk => exact False.elim h
          | cont => exact False.elim h
      have body : wpAny (model X.prog X.w) X.A.in1 (Builtin.«object.__ne__» ⟨[.ref xa, v], []⟩) (fun fin s' => match fin with | .done f => (match f with | .ret v => ∃ b, v = .bool b ∧ EP X pins σ Q v s' | _ => False) | .again _ => False) X.xe s2 := by
        unfold Builtin.«object.__ne__»
        have hu2 : X.A.in1.units < cLine := hin
        repeat (first | with_reducible refine wpAny_cRoomFor hu2 ?_ | with_reducible refine deep _ (fun b s3 h3 => ?_) | wp_step)
        exact ⟨_, rfl, h3⟩
      show wpAny (model X.prog X.w) X.A (tryCompare (.ref xa) "__ne__" v) _ X.xe s2
      unfold tryCompare
      refine wpAny_bind (ifBound_ne Xs J N.ne (wpAny_call (codeAny_call_builtin PySem.F.cmp_object.ne.plain PySem.F.cmpEntry_ne (PySem.W.check_slot PySem.F.cmpKind_ne PySem.F.cmpSplit_ne (J.type.andThen (PySem.W.looks_mroIn Xs N.ob)) (PySem.F.cmpArgs_ne _ _) (wpAny_mono body (fun fin s' h => ?_) fun _ _ h => h)))))
      cases fin with
      | again c' => exact h.elim
      | done fl =>
        cases fl with
        | ret v =>
          obtain ⟨b, rfl, h⟩ := h
          exact wpAny_pure ⟨_, rfl, h⟩
        | next => exact h.elim
        | brk => exact h.elim
        | cont => exact h.elim
  · exact p2.elim
def eqAR (neg : Bool) (kc : Nat) (F : List D → Sto → R D) (d e : D) (s : Sto) : R D := if (isIns s d kc "" && eqR s e kc) = true then (F [d, e] s).bind fun r s => blR neg r s else if (plainL s d && isIns s e kc "") = true then (F [e, d] s).bind fun r s => blR neg r s else .bad
theorem eqA_run {neg : Bool} {op : CmpOp} (hop : op = eqOp neg) (hk : c.K = X.K) (tk : Takes X W) (O : UnK X.K (c.cl kc) "__eq__" f) (N : NeD X.K (c.cl kc)) (K : FnR X.prog X.w X.K X.mg X.base (L2.CX X.prog X.w) k f (spR c F)) (hr : Room (k + 1) X.A) :
    CmpRun X c W op (eqAR neg kc F) := by
  intro pins σ s2 w2 st2 d e x y v u Q I2 r2 q1 q2 rx ry p2
  unfold eqAR at p2
  split at p2
  · rename_i h
    exact eqK_run hop hk tk O N K hr I2 r2 q1 q2 rx ry (by unfold eqKR; rw [if_pos h]; exact p2)
  · split at p2
    · rename_i h
      exact eqL_run hop hk tk O N K hr I2 r2 q1 q2 rx ry (by unfold eqLR; rw [if_pos h]; exact p2)
    · exact p2.elim
end
end Ir
end
section
set_option Elab.async false
set_option linter.all false
set_option maxRecDepth 100000
/-! displays {} and {i: j} of integers -/
namespace Ir
open PySem PySem.Spec PyProof.Rows L2
section
variable {X : Cx} {c : Rc} {W : WX} {pos p1 p2 : Pos}
def mDic (ps : List (Int × Int)) : Fe := fun _ s => .ok (.dic (ps.map fun q => .int q.1) (ps.map fun q => .int q.2)) s
theorem rv_dic {w : Wd} {s : Sto} {p : Addr} {kvs : List (Key × V)} {ks ds : List D} (hs : Rs c w s) (n : w.H p = none) (h1 : ks = kvs.map fun q => kd q.1) (h2 : rvs c w ds (kvs.map (·.2))) : Ir.rv c (w.frz p (.dK kvs)) (.dic ks ds) (.ref p) := by
  simp only [Ir.rv]
  exact ⟨p, _, rfl, .inr rfl, .inl ⟨kvs, upd_same, h1, rfl⟩, h2.mono (.frz hs n)⟩
theorem x_d0 : PE X (.Dict [] [] pos) (rd c W (mDic [])) := pe_dnewK.imp fun σ H Q ⟨w, env, s, hw, hs, he, hp⟩ => by
  subst hw
  intro p hn
  exact hp (w.frz p (.dK [])) (.ref p) (.frz hs hn) (.frz hs hn fun ps e => by cases e) (rv_dic hs hn rfl .nil)
theorem x_d1 {i j : Int} {t1 t2 : Nat} : PE X (.Dict [some (.Constant (.int i) t1 p1)] [.Constant (.int j) t2 p2] pos) (rd c W (mDic [(i, j)])) := (pe_disp (pps_cons pe_int pe_int pps_nil) rfl rfl (by simp) (by simp)).imp fun σ H Q ⟨w, env, s, hw, hs, he, hp⟩ => by
  subst hw
  intro p hn
  have hq : Q (.ref p) (upd w.H p (.dK [(.inl i, .int j)])) := hp (w.frz p (.dK [(.inl i, .int j)])) (.ref p) (.frz hs hn) (.frz hs hn fun ps e => by cases e) (rv_dic (ks := [.int i]) (ds := [.int j]) hs hn rfl (.cons (by simp only [Ir.rv]) .nil))
  refine ⟨upd_same, [(.inl i, .int j)], rfl, by simp, ?_⟩
  have e : upd (upd w.H p (.dK [])) p (.dK (mergeK [] [(.inl i, .int j)])) = upd w.H p (.dK [(.inl i, .int j)]) := by
    funext b
    by_cases hb : b = p
    · subst hb; rw [upd_same, upd_same]; rfl
    · rw [upd_ne hb, upd_ne hb, upd_ne hb]
  rw [e]
  exact hq
end
end Ir
end
section
set_option Elab.async false
set_option linter.all false
set_option maxRecDepth 100000
/-! sets of texts: made of a list or a tuple, sorted, counted -/
namespace Ir
open PySem PySem.Spec PyProof.Rows L2
def tx (e : Int × Value) : Str := match e.2 with
  | .str x _ => x
  | _ => Str.empty
def IsTx (P : Program) (w : World) (e : Int × Value) : Prop := ∃ x t, e.2 = .str x t ∧ e.1 = (PySem.strKind P w).hash x
/-- a set object that has just the texts of L -/
def TxS (P : Program) (w : World) (h : Heap) (a : Addr) (L : List Str) : Prop :=
  ∃ o es ep t, h.get? a = some o ∧ o.ExactSet ∧ o.data = .set es ep t ∧ (∀ e ∈ es.toList, IsTx P w e) ∧ (es.toList.map tx).Nodup ∧ (∀ x, x ∈ L ↔ x ∈ es.toList.map tx) ∧ es.size ≤ L.length ∧ t.fits es.size = true ∧ Ris t.place.toList ∧ (w.params.followText "set-order" = true ∨ t.led = true)
section
variable {P : Program} {w : World} {A : Around} {E : Value → Shared → Prop} {s : Shared} {a : Addr} {L : List Str} {h h' : Heap}
theorem TxS.keep (R : TxS P w h a L) (k : ∀ o, h.get? a = some o → h'.get? a = some o) : TxS P w h' a L := by
  obtain ⟨o, es, ep, t, ho, r⟩ := R
  exact ⟨o, es, ep, t, k o ho, r⟩
theorem isTx_elems {l : List (Int × Value)} (g : ∀ e ∈ l, IsTx P w e) : ElemsOf (PySem.strKind P w) l := fun e he => by
  obtain ⟨x, t, q1, q2⟩ := g e he
  exact ⟨⟨x, by rw [q1]; exact strKind_is P w x t, q2⟩, by rw [q1]; rfl⟩
theorem isTx_is {e : Int × Value} (g : IsTx P w e) (x : Str) : (PySem.strKind P w).is x e.2 = true ↔ tx e = x := by
  obtain ⟨y, t, q, _⟩ := g
  unfold tx
  rw [q]
  show (Value.isStrOf x (.str y t) = true) ↔ y = x
  constructor
  · intro z
    obtain ⟨u, z⟩ := Value.isStrOf_shape z
    cases z
    rfl
  · rintro rfl
    exact strKind_is P w y t
theorem isTx_mem {l : List (Int × Value)} (g : ∀ e ∈ l, IsTx P w e) (x : Str) : x ∈ l.map tx ↔ ∃ e ∈ l, (PySem.strKind P w).is x e.2 = true := by
  rw [List.mem_map]
  exact ⟨fun ⟨e, he, q⟩ => ⟨e, he, (isTx_is (g e he) x).mpr q⟩, fun ⟨e, he, q⟩ => ⟨e, he, (isTx_is (g e he) x).mp q⟩⟩
/-- the end of an addition: the table is stored, and laid anew if it is too full -/
theorem tx_tail {g : Bool → Sem Unit} (hg : ∀ (b : Bool) (s₁ : Shared) (Q' : Unit → Shared → Prop), Q' () s₁ → wpAny (model P w) A (g b) Q' E s₁)
    {o : Obj} {es es1 : Array (Int × Value)} {ep : Nat} {t t2 : SetTable} {M : List Str} (ho : s.heap.get? a = some o) (hx : o.ExactSet) (hd : o.data = .set es ep t) (g1 : ∀ e ∈ es1.toList, IsTx P w e) (nd1 : (es1.toList.map tx).Nodup)
    (m1 : ∀ x, x ∈ M ↔ x ∈ es1.toList.map tx) (hz : es1.size ≤ M.length) (hM : M.length < scanBound) (hf : t2.fits es1.size = true) (hr : Ris t2.place.toList) (hl : w.params.followText "set-order" = true ∨ t2.led = true) {wd : Bool} {R : Option Bool → Shared → Prop}
    (hR : ∀ h', Heap.SameBut a s.heap h' → TxS P w h' a M → R (some true) { s with heap := h' }) :
    wpAny (model P w) A (do
        storeSet a es1 t2
        if (!wd && t2.tooFull) = true then do
            g (relayAll t2 es1 (SetTable.grown es1.size)).2.2
            storeSet a (relayAll t2 es1 (SetTable.grown es1.size)).1 (relayAll t2 es1 (SetTable.grown es1.size)).2.1
            pure (some true)
          else pure (some true)) R E s := by
  have hb1 : es1.size < scanBound := by omega
  have o1 := store_at (es' := es1) (t' := t2) ho hd
  have b1 := Heap.SameBut.update s.heap a (Obj.putSet es1 t2)
  refine wpAny_bind (wpAny_storeSet_of ho hd ?_ (fits_of_scanBound hb1))
  by_cases full : (!wd && t2.tooFull) = true
  · rw [if_pos full]
    have q1 := relayAll_perm t2 es1 (SetTable.grown es1.size)
    have q2 := relayAll_fits t2 es1 (SetTable.grown es1.size)
    have q3 := relayAll_ris t2 es1 (SetTable.grown es1.size)
    have q4 := relayAll_led t2 es1 (SetTable.grown es1.size)
    generalize relayAll t2 es1 (SetTable.grown es1.size) = Z at q1 q2 q3 q4 ⊢
    obtain ⟨es2, t3, gave⟩ := Z
    dsimp only at q1 q2 q3 q4 ⊢
    have z2 : es2.size = es1.size := by rw [← Array.length_toList, q1.length_eq, Array.length_toList]
    refine wpAny_bind (hg _ _ _ ?_)
    refine wpAny_bind (wpAny_storeSet_of o1 rfl ?_ (fits_of_scanBound (by rw [z2]; exact hb1)))
    have o2 := store_at (es' := es2) (t' := t3) o1 rfl
    refine wpAny_pure (hR _ (b1.trans (Heap.SameBut.update _ a _)) ⟨_, es2, _, t3, o2, hx, rfl, fun e he => g1 e (q1.mem_iff.mp he), (q1.map tx).nodup_iff.mpr nd1, fun x => (m1 x).trans (q1.map tx).mem_iff.symm, by rw [z2]; exact hz, q2, q3, ?_⟩)
    rcases hl with z | z
    · exact .inl z
    · exact .inr (by rw [q4]; exact z)
  · rw [if_neg full]
    exact wpAny_pure (hR _ b1 ⟨_, es1, _, t2, o1, hx, rfl, g1, nd1, m1, hz, hf, hr, hl⟩)
theorem tx_add {x : Str} {t0 : Tok} {Q : Bool → Shared → Prop} (R : TxS P w s.heap a L) (room : L.length + 1 < scanBound)
    (hQ : ∀ h' b, Heap.SameBut a s.heap h' → TxS P w h' a (L ++ [x]) → Q b { s with heap := h' }) : wpAny (model P w) A (setAddHashed a (.str x t0) ((PySem.strKind P w).hash x)) Q E s := by
  obtain ⟨o, es, ep, t, ho, hx, hd, g, nd, hm, hz, hf, hr, hl⟩ := R
  have isk : (PySem.strKind P w).is x (.str x t0) = true := strKind_is P w x t0
  have sc : (Value.str x t0).scannable = true := rfl
  have el := isTx_elems g
  have hb : es.size < scanBound := by omega
  unfold setAddHashed setAddHashedIn
  refine wpAny_holding (wpAny_bind (wpAny_setState_of ho hd hf ?_))
  dsimp only
  rw [byScan_of sc hb el]
  simp only [↓reduceIte]
  unfold setAddByScan
  refine wpAny_bind (wpAny_bind (wpAny_rule (wpAny_bind (wpAny_setScan_of isk ho hd hf el ?_))))
  cases hfi : List.findIdx? (fun e => (PySem.strKind P w).is x e.2) es.toList with
  | some j =>
    dsimp only
    obtain ⟨hj, pj, _⟩ := List.findIdx?_eq_some_iff_getElem.mp hfi
    have old : x ∈ L := (hm x).mpr ((isTx_mem g x).mpr ⟨es.toList[j], List.getElem_mem hj, pj⟩)
    refine wpAny_pure (wpAny_pure (hQ s.heap _ (Heap.SameBut.refl a s.heap) ⟨o, es, ep, t, ho, hx, hd, g, nd, fun y => ?_, by rw [List.length_append]; omega, hf, hr, hl⟩))
    rw [← hm y, List.mem_append, List.mem_singleton]
    exact ⟨fun z => z.elim id fun z => z ▸ old, .inl⟩
  | none =>
    dsimp only
    have fresh : x ∉ es.toList.map tx := fun z => by
      obtain ⟨e, he, q⟩ := (isTx_mem g x).mp z
      have c := List.findIdx?_eq_none_iff.mp hfi e he
      rw [q] at c
      cases c
    have gave : ∀ (b : Bool) {s₁ : Shared} {Q' : Unit → Shared → Prop}, Q' () s₁ → wpAny (model P w) A (match b with | true => rule "set.scan.the-table-gave-way" | false => pure ()) Q' E s₁ := fun b s₁ Q' q => by
      cases b
      · exact wpAny_pure q
      · exact wpAny_rule q
    have q1 := layNew_perm t es ((PySem.strKind P w).hash x) (.str x t0)
    have q2 := layNew_fits t es ((PySem.strKind P w).hash x) (.str x t0)
    have q3 := layNew_ris t es ((PySem.strKind P w).hash x) (.str x t0) hr
    have q4 := layNew_led t es ((PySem.strKind P w).hash x) (.str x t0)
    generalize layNew t es ((PySem.strKind P w).hash x) (.str x t0) = Z at q1 q2 q3 q4 ⊢
    obtain ⟨es1, t1, wd, gv⟩ := Z
    dsimp only at q1 q2 q3 q4 ⊢
    rw [Array.toList_push] at q1
    have pc : es1.toList.Perm (((PySem.strKind P w).hash x, Value.str x t0) :: es.toList) := q1.trans (List.perm_append_singleton _ _)
    have pk : (es1.toList.map tx).Perm (x :: es.toList.map tx) := pc.map tx
    have g1 : ∀ e ∈ es1.toList, IsTx P w e := fun e he => by
      rcases List.mem_cons.mp (pc.mem_iff.mp he) with z | z
      · exact ⟨x, t0, by rw [z], by rw [z]⟩
      · exact g e z
    have nd1 : (es1.toList.map tx).Nodup := pk.nodup_iff.mpr (List.nodup_cons.mpr ⟨fresh, nd⟩)
    have m1 : ∀ y, y ∈ L ++ [x] ↔ y ∈ es1.toList.map tx := fun y => by
      rw [List.mem_append, List.mem_singleton, hm y, pk.mem_iff, List.mem_cons]
      exact Or.comm
    have z1 : es1.size = es.size + 1 := by rw [← Array.length_toList, pc.length_eq, List.length_cons, Array.length_toList]
    have zL : es1.size ≤ (L ++ [x]).length := by rw [List.length_append, List.length_singleton]; omega
    have lL : (L ++ [x]).length < scanBound := by rw [List.length_append, List.length_singleton]; omega
    have hl1 : w.params.followText "set-order" = true ∨ t1.led = true := hl.elim .inl fun z => .inr (by rw [q4]; exact z)
    refine wpAny_bind (gave _ ?_)
    split
    · refine wpAny_bind ?_
      rw [hashByValue_scannable 8 sc]
      refine wpAny_pure ?_
      refine tx_tail (fun b s₁ Q' q => gave b q) ho hx hd g1 nd1 m1 zL lL ?_ ?_ ?_ fun h' sb r => ?_
      · first | (split <;> first | exact q2 | exact SetTable.fits_plain_off q2) | exact q2
      · first | (split <;> exact q3) | exact q3
      · first | (split <;> exact hl1) | exact hl1
      · dsimp only
        exact wpAny_pure (hQ h' _ sb r)
    · refine wpAny_bind (wpAny_pure ?_)
      simp only [↓reduceIte]
      refine tx_tail (fun b s₁ Q' q => gave b q) ho hx hd g1 nd1 m1 zL lL q2 q3 hl1 fun h' sb r => ?_
      dsimp only
      exact wpAny_pure (hQ h' _ sb r)
theorem strs_get : ∀ {us : List Value} {xs : List Str}, StrsAre us xs → ∀ {i : Nat} {v : Value}, us[i]? = some v → ∃ x t, xs[i]? = some x ∧ v = .str x t
  | _, _, .nil, i, v, q => by simp at q
  | _, _, .cons x t r, 0, v, q => by
    simp only [List.getElem?_cons_zero, Option.some.injEq] at q
    exact ⟨x, t, rfl, q.symm⟩
  | _, _, .cons x t r, i + 1, v, q => by
    simp only [List.getElem?_cons_succ] at q ⊢
    exact strs_get r q
theorem txS_new {ho : Heap} {b : Addr} (q : ho.get? b = some { cls := .type "set", dict := none, data := .set #[] 0 (.fresh 0 0 (!w.params.followText "set-order")) }) : TxS P w ho b [] := by
  refine ⟨_, #[], 0, _, q, ⟨rfl, rfl, rfl⟩, rfl, fun e he => by simp at he, by simp, fun x => by simp, by simp, rfl, List.Pairwise.nil, ?_⟩
  show _ ∨ (!w.params.followText "set-order") = true
  cases w.params.followText "set-order"
  · exact .inr rfl
  · exact .inl rfl
/-- the items of a walk are added one by one -/
theorem tx_loop {I : Addr} {fp wr : List Addr} {G : Array GenState → Array GenState → Prop} {n : Nat} {Pv : Nat → Value → Prop} {St : Nat → Shared → Prop} {R : Result → Shared → Prop} (W : WalksS P w A.in1 I fp wr G n Pv St) (S : Addr) (hSf : S ∉ fp) (xs : List Str) (hn : n = xs.length) (room : xs.length + 1 < scanBound) (hv : ∀ i v, Pv i v → ∃ x t, xs[i]? = some x ∧ v = .str x t) :
    ∀ (left i : Nat) (s : Shared), i + left = n → St i s → TxS P w s.heap S (xs.take i) → (∀ s', Moved (S :: wr) G s s' → TxS P w s'.heap S xs → R (.ok (.ret .none)) s') → codeAny (model P w) A (.builtin "set.update.loop" ⟨[.ref S, .ref I], []⟩) R s
  | 0, i, s, hi, hst, hS, hR => by
    have hin : i = n := by omega
    subst hin
    refine codeAny_builtin F.entry_set_update_loop ?_
    rw [Around.under_plainId F.plain_set_update_loop _]
    show wpAny _ A.in1 (pyNext (.ref I) >>= _) _ _ s
    refine wpAny_bind (W.done s _ _ hst fun s' hm => ?_)
    show wpAny _ A.in1 (PySem.ret Value.none) _ _ s'
    rw [List.take_of_length_le (by omega)] at hS
    exact wpAny_pure (hR s' (hm.mono fun b hb => List.mem_cons_of_mem _ hb) (hS.keep fun o e => hm.heap S o (fun z => hSf (W.sub _ z)) e))
  | left + 1, i, s, hi, hst, hS, hR => by
    have hlt : i < n := by omega
    have wrS : ∀ b ∈ wr, b ∈ S :: wr := fun b hb => List.mem_cons_of_mem _ hb
    refine codeAny_builtin F.entry_set_update_loop ?_
    rw [Around.under_plainId F.plain_set_update_loop _]
    show wpAny _ A.in1 (pyNext (.ref I) >>= _) _ _ s
    refine wpAny_bind (W.item i s _ _ hlt hst fun v s' hP hst' hm => ?_)
    obtain ⟨x, t, hx, rfl⟩ := hv i v hP
    have hS' : TxS P w s'.heap S (xs.take i) := hS.keep fun o e => hm.heap S o (fun z => hSf (W.sub _ z)) e
    show wpAny _ A.in1 (holding [Value.str x t] (setAdd S (.str x t)) >>= _) _ _ s'
    refine wpAny_bind (wpAny_holding ?_)
    unfold setAdd
    refine wpAny_holding (wpAny_bind ((PySem.strKind P w).pyHash (k := x) (strKind_is _ _ _ _) ?_))
    refine tx_add (s := { s' with toks := s'.toks + 1 }) hS' (by rw [List.length_take]; omega) fun h' b sb S2 => ?_
    have S3 : TxS P w h' S (xs.take (i + 1)) := by
      rw [List.take_add_one, hx]
      exact S2
    refine wpAny_pure ⟨plainId_quiet F.plain_set_update_loop _, tx_loop W S hSf xs hn room hv left (i + 1) _ (by omega) (W.frame _ s' _ _ hst' (Nat.le_succ _) fun b hb o e => ?_) S3 fun s2 hm2 S4 => ?_⟩
    · rw [sb.2 b fun z : b = S => hSf (by rw [← z]; exact hb)]
      exact e
    · refine hR s2 (Moved.trans W.gtrans ((hm.mono wrS).then_heap (Nat.le_succ _) fun b o hb e => ?_) hm2) S4
      rw [sb.2 b fun z : b = S => hb (by rw [z]; exact List.mem_cons_self)]
      exact e
set_option maxHeartbeats 3200000 in
/-- set(xs), xs a list of texts -/
theorem set_of_list {l : Addr} {items : Array Value} {xs : List Str} {Q : Value → Shared → Prop} (hh : A.handled = none) (hl : s.heap.IsList l items) (hi : StrsAre items.toList xs) (room : xs.length + 1 < scanBound)
    (k : ∀ (h' : Heap) (tk : Nat), TxS P w h' s.heap.objs.size xs → (∀ b o, s.heap.get? b = some o → h'.get? b = some o) → Q (.ref s.heap.objs.size) { s with heap := h', toks := tk }) : wpAny (model P w) A (call (.type "set") [.ref l]) Q E s := by
  have e0 : items.size = xs.length := by rw [← StrsAre.len_eq hi, Array.length_toList]
  obtain ⟨c, tl, hmro⟩ := F.called_set.mro
  have f1 := F.called_set.made
  have f2 := F.called_set.sub
  refine wpAny_call (codeAny_of_tree ?_)
  show wpAny _ _ (callAny (.type "set") _) _ _ _
  refine wpAny_pure ⟨Code.quiet_builtin _ (by decide +kernel), codeAny_builtin F.entry_type_call ?_⟩
  rw [Around.under_plain (weight_type_call_type "set" [.ref l] []) rfl]
  have f3 := F.called_set.notType
  have f4 := F.called_set.canCreate
  have f5 := F.typeCall_set_1 (.ref l)
  repeat (any_goals (first | assumption | wp_step))
  refine codeAny_mono (code_set_led1 (.ref l) (E := E) (Q₁ := fun u s₁ => u = .ref s.heap.objs.size ∧ s₁ = { s with heap := s.heap.push { cls := .type "set", dict := none, data := .set #[] 0 (.fresh 0 0 (!w.params.followText "set-order")) } }) ⟨rfl, rfl⟩) fun r s₁ hr => ?_
  match r, hr with
  | .error _, hr => exact hr
  | .ok .next, hr => exact hr.elim
  | .ok .brk, hr => exact hr.elim
  | .ok .cont, hr => exact hr.elim
  | .ok (.ret u), hr =>
    obtain ⟨rfl, rfl⟩ := hr
    have sAt : (s.heap.push ({ cls := .type "set", dict := none, data := .set #[] 0 (.fresh 0 0 (!w.params.followText "set-order")) } : Obj)).get? s.heap.objs.size = some ({ cls := .type "set", dict := none, data := .set #[] 0 (.fresh 0 0 (!w.params.followText "set-order")) } : Obj) := Heap.get?_push_size _ rfl
    have sTy : Shared.TypeIs { s with heap := s.heap.push ({ cls := .type "set", dict := none, data := .set #[] 0 (.fresh 0 0 (!w.params.followText "set-order")) } : Obj) } (.ref s.heap.objs.size) "set" := ⟨_, sAt, rfl⟩
    have f6 := F.called_set.init.lookup
    have f7 := F.called_set.init.bind (.ref s.heap.objs.size)
    repeat (any_goals (first | assumption | wp_step))
    refine codeAny_mono (codeAny_call_builtin (R := wants (fun r s₂ => r = .none ∧ ∃ h' tk, s₂ = { s with heap := h', toks := tk } ∧ TxS P w h' s.heap.objs.size xs ∧ (∀ b o, s.heap.get? b = some o → h'.get? b = some o)) E) F.called_set.init.plain F.entry_set_init (check_set_init_1 sTy ?_)) fun r₂ s₂ hr₂ => ?_
    · obtain ⟨ol, hol, hcl, nl, hdl⟩ := hl
      obtain ⟨oc, od, oda, osl⟩ := ol
      simp only at hcl hdl
      subst hcl
      subst hdl
      have g0 : (s.heap.push ({ cls := .type "set", dict := none, data := .set #[] 0 (.fresh 0 0 (!w.params.followText "set-order")) } : Obj)).get? l = some { cls := .type "list", dict := od, data := .seq items nl, slots := osl } := Heap.get?_push_of_some _ hol
      have g1 := F.sub_list_set
      have g2 := F.sub_list_frozenset
      have g3 : (Value.type "list" == Value.type "dict") = false := by decide
      have g4 : (s.heap.push ({ cls := .type "set", dict := none, data := .set #[] 0 (.fresh 0 0 (!w.params.followText "set-order")) } : Obj)).IsList l items := ⟨_, g0, rfl, nl, rfl⟩
      unfold Builtin.«set.__init__» noKeywords Builtin.Frozenset.updateFrom
      generalize hPI : pyIter = PI
      wp_walk
      subst hPI
      refine wpAny_pyIter_list g4 ?_
      refine wpAny_bind (wpAny_runValue ?_)
      have hlS : l < s.heap.objs.size := Heap.lt_size hol
      have hh3 : A.in1.in1.in1.handled = none := by simp [hh]
      have zz : (s.heap.push ({ cls := .type "set", dict := none, data := .set #[] 0 (.fresh 0 0 (!w.params.followText "set-order")) } : Obj)).objs.size = s.heap.objs.size + 1 := Heap.size_push ..
      have hv : ∀ (i : Nat) (v : Value), items[i]? = some v → ∃ x t, xs[i]? = some x ∧ v = .str x t := fun i v hv => by
        have hq : items.toList[i]? = some v := by rw [Array.getElem?_toList]; exact hv
        exact strs_get hi hq
      refine tx_loop ((Walks.list hh3 _ l (by rw [zz]; exact Nat.ne_of_lt (Nat.lt_succ_of_lt hlS)) items).toS) s.heap.objs.size (by simp only [List.mem_cons, List.not_mem_nil, or_false, not_or]; rw [zz]; exact ⟨Nat.ne_of_lt (Nat.lt_succ_self _), Nat.ne_of_gt hlS⟩) xs e0 room hv items.size 0 _ (by omega) ⟨⟨_, Heap.get?_push_size _ rfl, rfl, rfl⟩, g4.push _⟩ ?_ fun s' hm hS => ?_
      · rw [List.take_zero]
        refine txS_new ?_
        exact Heap.get?_push_of_some _ sAt
      · obtain ⟨h', g', d', tk', os'⟩ := s'
        have eg : g' = s.gens := hm.gens
        have ed : d' = s.drawn := hm.drawn
        have eo : os' = s.os := hm.os
        subst eg ed eo
        show wpAny _ _ _ _ _ _
        refine wpAny_pure ?_
        show wpAny _ _ (PySem.ret Value.none) _ _ _
        refine wpAny_pure ⟨rfl, h', tk', rfl, hS, fun b o e => hm.heap b o ?_ (Heap.get?_push_of_some _ (Heap.get?_push_of_some _ e))⟩
        have lt := Heap.lt_size e
        simp only [List.mem_cons, List.not_mem_nil, or_false, not_or]
        rw [zz]
        exact ⟨Nat.ne_of_lt lt, Nat.ne_of_lt (Nat.lt_succ_of_lt lt)⟩
    · match r₂, hr₂ with
      | .error _, hr₂ => exact hr₂
      | .ok .next, hr₂ => exact hr₂.elim
      | .ok .brk, hr₂ => exact hr₂.elim
      | .ok .cont, hr₂ => exact hr₂.elim
      | .ok (.ret r), hr₂ =>
        obtain ⟨rfl, h', tk, rfl, hS, hk⟩ := hr₂
        repeat (any_goals (first | assumption | wp_step))
        exact k _ _ hS hk
set_option maxHeartbeats 3200000 in
/-- set(xs), xs a tuple of texts -/
theorem set_of_tuple {l : Addr} {items : Array Value} {xs : List Str} {Q : Value → Shared → Prop} (hh : A.handled = none) (hl : s.heap.IsTuple l items) (hi : StrsAre items.toList xs) (room : xs.length + 1 < scanBound)
    (k : ∀ (h' : Heap) (tk : Nat), TxS P w h' s.heap.objs.size xs → (∀ b o, s.heap.get? b = some o → h'.get? b = some o) → Q (.ref s.heap.objs.size) { s with heap := h', toks := tk }) : wpAny (model P w) A (call (.type "set") [.ref l]) Q E s := by
  have e0 : items.size = xs.length := by rw [← StrsAre.len_eq hi, Array.length_toList]
  obtain ⟨c, tl, hmro⟩ := F.called_set.mro
  have f1 := F.called_set.made
  have f2 := F.called_set.sub
  refine wpAny_call (codeAny_of_tree ?_)
  show wpAny _ _ (callAny (.type "set") _) _ _ _
  refine wpAny_pure ⟨Code.quiet_builtin _ (by decide +kernel), codeAny_builtin F.entry_type_call ?_⟩
  rw [Around.under_plain (weight_type_call_type "set" [.ref l] []) rfl]
  have f3 := F.called_set.notType
  have f4 := F.called_set.canCreate
  have f5 := F.typeCall_set_1 (.ref l)
  repeat (any_goals (first | assumption | wp_step))
  refine codeAny_mono (code_set_led1 (.ref l) (E := E) (Q₁ := fun u s₁ => u = .ref s.heap.objs.size ∧ s₁ = { s with heap := s.heap.push { cls := .type "set", dict := none, data := .set #[] 0 (.fresh 0 0 (!w.params.followText "set-order")) } }) ⟨rfl, rfl⟩) fun r s₁ hr => ?_
  match r, hr with
  | .error _, hr => exact hr
  | .ok .next, hr => exact hr.elim
  | .ok .brk, hr => exact hr.elim
  | .ok .cont, hr => exact hr.elim
  | .ok (.ret u), hr =>
    obtain ⟨rfl, rfl⟩ := hr
    have sAt : (s.heap.push ({ cls := .type "set", dict := none, data := .set #[] 0 (.fresh 0 0 (!w.params.followText "set-order")) } : Obj)).get? s.heap.objs.size = some ({ cls := .type "set", dict := none, data := .set #[] 0 (.fresh 0 0 (!w.params.followText "set-order")) } : Obj) := Heap.get?_push_size _ rfl
    have sTy : Shared.TypeIs { s with heap := s.heap.push ({ cls := .type "set", dict := none, data := .set #[] 0 (.fresh 0 0 (!w.params.followText "set-order")) } : Obj) } (.ref s.heap.objs.size) "set" := ⟨_, sAt, rfl⟩
    have f6 := F.called_set.init.lookup
    have f7 := F.called_set.init.bind (.ref s.heap.objs.size)
    repeat (any_goals (first | assumption | wp_step))
    refine codeAny_mono (codeAny_call_builtin (R := wants (fun r s₂ => r = .none ∧ ∃ h' tk, s₂ = { s with heap := h', toks := tk } ∧ TxS P w h' s.heap.objs.size xs ∧ (∀ b o, s.heap.get? b = some o → h'.get? b = some o)) E) F.called_set.init.plain F.entry_set_init (check_set_init_1 sTy ?_)) fun r₂ s₂ hr₂ => ?_
    · obtain ⟨ol, hol, hcl, nl, hdl⟩ := hl
      obtain ⟨oc, od, oda, osl⟩ := ol
      simp only at hcl hdl
      subst hcl
      subst hdl
      have g0 : (s.heap.push ({ cls := .type "set", dict := none, data := .set #[] 0 (.fresh 0 0 (!w.params.followText "set-order")) } : Obj)).get? l = some { cls := .type "tuple", dict := od, data := .seq items nl, slots := osl } := Heap.get?_push_of_some _ hol
      have g1 := F.sub_tuple_set
      have g2 := F.sub_tuple_frozenset
      have g3 : (Value.type "tuple" == Value.type "dict") = false := by decide
      have g4 : (s.heap.push ({ cls := .type "set", dict := none, data := .set #[] 0 (.fresh 0 0 (!w.params.followText "set-order")) } : Obj)).IsTuple l items := ⟨_, g0, rfl, nl, rfl⟩
      unfold Builtin.«set.__init__» noKeywords Builtin.Frozenset.updateFrom
      generalize hPI : pyIter = PI
      wp_walk
      subst hPI
      refine wpAny_pyIter_tuple g4 ?_
      refine wpAny_bind (wpAny_runValue ?_)
      have hlS : l < s.heap.objs.size := Heap.lt_size hol
      have hh3 : A.in1.in1.in1.handled = none := by simp [hh]
      have zz : (s.heap.push ({ cls := .type "set", dict := none, data := .set #[] 0 (.fresh 0 0 (!w.params.followText "set-order")) } : Obj)).objs.size = s.heap.objs.size + 1 := Heap.size_push ..
      have hv : ∀ (i : Nat) (v : Value), items[i]? = some v → ∃ x t, xs[i]? = some x ∧ v = .str x t := fun i v hv => by
        have hq : items.toList[i]? = some v := by rw [Array.getElem?_toList]; exact hv
        exact strs_get hi hq
      refine tx_loop ((Walks.tuple hh3 _ l (by rw [zz]; exact Nat.ne_of_lt (Nat.lt_succ_of_lt hlS)) items).toS) s.heap.objs.size (by simp only [List.mem_cons, List.not_mem_nil, or_false, not_or]; rw [zz]; exact ⟨Nat.ne_of_lt (Nat.lt_succ_self _), Nat.ne_of_gt hlS⟩) xs e0 room hv items.size 0 _ (by omega) ⟨⟨_, Heap.get?_push_size _ rfl, rfl, rfl⟩, g4.push _⟩ ?_ fun s' hm hS => ?_
      · rw [List.take_zero]
        refine txS_new ?_
        exact Heap.get?_push_of_some _ sAt
      · obtain ⟨h', g', d', tk', os'⟩ := s'
        have eg : g' = s.gens := hm.gens
        have ed : d' = s.drawn := hm.drawn
        have eo : os' = s.os := hm.os
        subst eg ed eo
        show wpAny _ _ _ _ _ _
        refine wpAny_pure ?_
        show wpAny _ _ (PySem.ret Value.none) _ _ _
        refine wpAny_pure ⟨rfl, h', tk', rfl, hS, fun b o e => hm.heap b o ?_ (Heap.get?_push_of_some _ (Heap.get?_push_of_some _ e))⟩
        have lt := Heap.lt_size e
        simp only [List.mem_cons, List.not_mem_nil, or_false, not_or]
        rw [zz]
        exact ⟨Nat.ne_of_lt lt, Nat.ne_of_lt (Nat.lt_succ_of_lt lt)⟩
    · match r₂, hr₂ with
      | .error _, hr₂ => exact hr₂
      | .ok .next, hr₂ => exact hr₂.elim
      | .ok .brk, hr₂ => exact hr₂.elim
      | .ok .cont, hr₂ => exact hr₂.elim
      | .ok (.ret r), hr₂ =>
        obtain ⟨rfl, h', tk, rfl, hS, hk⟩ := hr₂
        repeat (any_goals (first | assumption | wp_step))
        exact k _ _ hS hk
/-! the sorted list of distinct texts -/
abbrev ltT (a b : Str) : Prop := a.cps.toList < b.cps.toList
def insT (x : Str) : List Str → List Str
  | [] => [x]
  | y :: l => if x = y then y :: l else if ltT x y then x :: y :: l else y :: insT x l
def sT (xs : List Str) : List Str := xs.foldr insT []
theorem ltT_trans {a b c : Str} (h : ltT a b) (k : ltT b c) : ltT a c := List.lt_trans h k
theorem ltT_irrefl (a : Str) : ¬ ltT a a := List.lt_irrefl _
theorem ltT_tri {a b : Str} (h : a ≠ b) (k : ¬ ltT a b) : ltT b a := by
  have q : b.cps.toList ≤ a.cps.toList := List.not_lt.mp k
  refine Classical.byContradiction fun z => h ?_
  have q2 : a.cps.toList ≤ b.cps.toList := List.not_lt.mp z
  have e := List.le_antisymm q2 q
  obtain ⟨⟨a⟩⟩ := a
  obtain ⟨⟨b⟩⟩ := b
  simp only at e
  rw [e]
theorem insT_mem (x y : Str) : ∀ l : List Str, y ∈ insT x l ↔ y = x ∨ y ∈ l
  | [] => by simp [insT]
  | z :: l => by
    simp only [insT]
    split
    · rename_i e
      subst e
      simp only [List.mem_cons]
      exact ⟨.inr, fun h => h.elim .inl id⟩
    · split
      · simp only [List.mem_cons]
      · simp only [List.mem_cons, insT_mem x y l]
        exact ⟨fun h => h.elim (fun h => .inr (.inl h)) fun h => h.elim .inl fun h => .inr (.inr h), fun h => h.elim (fun h => .inr (.inl h)) fun h => h.elim .inl fun h => .inr (.inr h)⟩
theorem insT_pw (x : Str) : ∀ {l : List Str}, l.Pairwise ltT → (insT x l).Pairwise ltT
  | [], _ => List.pairwise_singleton _ _
  | z :: l, h => by
    obtain ⟨h1, h2⟩ := List.pairwise_cons.mp h
    simp only [insT]
    split
    · exact h
    · rename_i ne
      split
      · rename_i lt
        refine List.pairwise_cons.mpr ⟨fun y hy => ?_, h⟩
        rcases List.mem_cons.mp hy with rfl | hy
        · exact lt
        · exact ltT_trans lt (h1 y hy)
      · rename_i nl
        refine List.pairwise_cons.mpr ⟨fun y hy => ?_, insT_pw x h2⟩
        rcases (insT_mem x y l).mp hy with rfl | hy
        · exact ltT_tri ne nl
        · exact h1 y hy
theorem sT_mem (x : Str) : ∀ xs : List Str, x ∈ sT xs ↔ x ∈ xs
  | [] => by simp [sT]
  | y :: xs => by
    show x ∈ insT y (sT xs) ↔ _
    rw [insT_mem, sT_mem x xs, List.mem_cons]
theorem sT_pw : ∀ xs : List Str, (sT xs).Pairwise ltT
  | [] => .nil
  | y :: xs => insT_pw y (sT_pw xs)
theorem pw_nodup {l : List Str} (h : l.Pairwise ltT) : l.Nodup := List.Pairwise.imp (S := fun a b => a ≠ b) (fun {a b} (q : ltT a b) (e : a = b) => ltT_irrefl a (by rw [← e] at q; exact q)) h
theorem sT_len (xs : List Str) : (sT xs).length ≤ xs.length := (pw_nodup (sT_pw xs)).length_le_of_subset fun x hx => (sT_mem x xs).mp hx
/-- two rising lists with the same texts are one -/
theorem pw_one : ∀ {l m : List Str}, l.Pairwise ltT → m.Pairwise ltT → (∀ x, x ∈ l ↔ x ∈ m) → l = m
  | [], [], _, _, _ => rfl
  | [], y :: m, _, _, h => absurd ((h y).mpr (by simp)) (by simp)
  | x :: l, [], _, _, h => absurd ((h x).mp (by simp)) (by simp)
  | x :: l, y :: m, hl, hm, h => by
    obtain ⟨l1, l2⟩ := List.pairwise_cons.mp hl
    obtain ⟨m1, m2⟩ := List.pairwise_cons.mp hm
    have e : x = y := by
      rcases List.mem_cons.mp ((h x).mp (by simp)) with e | hx
      · exact e
      · rcases List.mem_cons.mp ((h y).mpr (by simp)) with e | hy
        · exact e.symm
        · exact absurd (ltT_trans (l1 y hy) (m1 x hx)) (ltT_irrefl x)
    subst e
    refine congrArg _ (pw_one l2 m2 fun z => ?_)
    constructor
    · intro hz
      rcases List.mem_cons.mp ((h z).mp (by simp [hz])) with e | hz2
      · exact absurd (e ▸ l1 z hz) (ltT_irrefl x)
      · exact hz2
    · intro hz
      rcases List.mem_cons.mp ((h z).mpr (by simp [hz])) with e | hz2
      · exact absurd (e ▸ m1 z hz) (ltT_irrefl x)
      · exact hz2
theorem sT_eq {xs ys : List Str} (h : ∀ x, x ∈ xs ↔ x ∈ ys) : sT xs = sT ys := pw_one (sT_pw xs) (sT_pw ys) fun x => by rw [sT_mem, sT_mem, h]
theorem rising_pw : ∀ (p : Str) (l : List Str), risingS p l = true → (p :: l).Pairwise fun a b => a.cps.toList ≤ b.cps.toList
  | p, [], _ => List.pairwise_singleton _ _
  | p, x :: l, h => by
    have h : (!ltCps x.cps.toList p.cps.toList && risingS x l) = true := h
    rw [Bool.and_eq_true, ltCps_eq, Bool.not_eq_true', decide_eq_false_iff_not] at h
    have r := rising_pw x l h.2
    have px : p.cps.toList ≤ x.cps.toList := List.not_lt.mp h.1
    refine List.pairwise_cons.mpr ⟨fun y hy => ?_, r⟩
    rcases List.mem_cons.mp hy with rfl | hy
    · exact px
    · exact List.le_trans px ((List.pairwise_cons.mp r).1 y hy)
theorem sorted_lt {l : List Str} (h : sortedS l = true) (nd : l.Nodup) : l.Pairwise ltT := by
  have le : l.Pairwise fun a b => a.cps.toList ≤ b.cps.toList := by
    cases l with
    | nil => exact .nil
    | cons x l => exact rising_pw x l h
  refine (List.Pairwise.and le nd).imp fun {a b} ⟨q, ne⟩ => ?_
  refine ltT_tri (fun e => ne e.symm) fun z => ?_
  exact absurd z (List.not_lt.mpr q)
theorem texts_of : ∀ (l : List Value), (∀ v ∈ l, ∃ x t, v = Value.str x t) → ∃ xs, StrsAre l xs ∧ xs = l.map fun v => match v with | .str x _ => x | _ => Str.empty
  | [], _ => ⟨[], .nil, rfl⟩
  | v :: l, h => by
    obtain ⟨x, t, rfl⟩ := h v (by simp)
    obtain ⟨xs, q1, q2⟩ := texts_of l fun u hu => h u (by simp [hu])
    exact ⟨x :: xs, .cons x t q1, by rw [q2]; rfl⟩
/-- sorted(a), a a set of texts -/
theorem sorted_tx {Q : Value → Shared → Prop} (R : TxS P w s.heap a L) (hh : A.handled = none) (room : L.length < scanBound)
    (k : ∀ (s' : Shared) (p : Addr) (out : Array Value) (c : Nat), (∀ b o, s.heap.get? b = some o → s'.heap.get? b = some o) → s'.gens = s.gens → s'.os = s.os → s.heap.objs.size ≤ p → s'.heap.get? p = some (seqObj "list" out c) → StrsAre out.toList (sT L) → Q (.ref p) s') :
    wpAny (model P w) A (call (.builtin "sorted") [.ref a]) Q E s := by
  obtain ⟨o, es, ep, t, ho, hx, hd, g, nd, hm, hz, hf, hr, hl⟩ := R
  have hb : es.size < scanBound := by omega
  refine Calls.call_function_entry kind_sorted plain_sorted entry_sorted (args_sorted1 _) ?_
  unfold Builtin.«sorted»
  refine wpAny_bind (m := checkCount "sorted" 1 1 _) (wpAny_pure ?_)
  refine wpAny_bind (collect_set (A := A.in1) hh ⟨o, ho, hx.1, hd⟩ hf hb hr hl fun s1 vs k1 z1 g1 o1 pm => ?_)
  have vl : vs.length = es.size := by rw [pm.length_eq, List.length_map, Array.length_toList]
  have vz : vs.length ≤ sizeLine := by rw [vl]; exact Nat.le_of_lt (Nat.lt_of_lt_of_le hb (by decide))
  obtain ⟨xs, sx, ex⟩ := texts_of vs fun v hv => by
    obtain ⟨e, he, q⟩ := List.mem_map.mp (pm.mem_iff.mp hv)
    obtain ⟨x, tk, q1, _⟩ := g e he
    exact ⟨x, tk, by rw [← q]; exact q1⟩
  have px : xs.Perm (es.toList.map tx) := by
    have q := pm.map fun v => match v with
      | Value.str x _ => x
      | _ => Str.empty
    rw [List.map_map, ← ex] at q
    exact q
  refine wpAny_bind (wpAny_newList ?_ vz)
  have lAt : (s1.heap.push (seqObj "list" vs.toArray 0)).get? s1.heap.objs.size = some (seqObj "list" vs.toArray 0) := Heap.get?_push_size _ rfl
  refine wpAny_bind (wpAny_holding (wpAny_call_entry slot_list_sort ⟨_, lAt, rfl⟩ entry_list_sort (list_sort_treeKAny strKind_oneLt lAt sx.keysOf (fun v₁ v₂ rest e => keyKind_strs (by rw [← e]; exact sx)) vz fun st' hp hs => ⟨_, rfl, ?_⟩) (args_list_sort _)))
  obtain ⟨ss, q1, q2, q3⟩ := sorted_out_str sx hp hs
  obtain ⟨c, hc⟩ := sortedHeap_at (vs := vs) (out := (arrOf st').map (·.2)) lAt
  have pe : ss.Perm (es.toList.map tx) := q2.trans px
  have fin : ss = sT L := pw_one (sorted_lt q3 (pe.nodup_iff.mpr nd)) (sT_pw L) fun x => by rw [pe.mem_iff, ← hm x, sT_mem]
  subst fin
  refine wpAny_pure ⟨_, rfl, k _ s1.heap.objs.size _ c (fun b u e => ?_) g1 o1 z1 hc q1⟩
  have q := k1 b u e
  have lt := Heap.lt_size q
  show (sortedHeap (s1.heap.push (seqObj "list" vs.toArray 0)) s1.heap.objs.size vs ((arrOf st').map (·.2))).get? b = some u
  rw [sortedHeap_old (Nat.ne_of_lt lt) (by rw [size_push']; exact Nat.lt_succ_of_lt lt)]
  exact Heap.get?_push_of_some _ q
end
end Ir
end
section
set_option Elab.async false
set_option linter.all false
set_option maxRecDepth 100000
/-! sorted(set(xs)), len(set(xs)) of texts; repr of plain data; lists repeated, turned round; instances called -/
namespace Ir
open PySem PySem.Spec PyProof.Rows L2
def strsOf : List D → Option (List Str)
  | [] => some []
  | .str x :: ds => (strsOf ds).map (x :: ·)
  | _ => none
theorem strs_view {c : Rc} {w : Wd} : ∀ {ds : List D} {xs : List Str} {vs : List V}, strsOf ds = some xs → rvs c w ds vs → vs = xs.map V.str
  | [], xs, vs, h, r => by simp only [strsOf, Option.some.injEq] at h; simp only [rvs] at r; subst h r; rfl
  | d :: ds, xs, vs, h, r => by
    cases d <;> simp only [strsOf, reduceCtorEq] at h
    rw [Option.map_eq_some_iff] at h
    obtain ⟨ys, h, rfl⟩ := h
    simp only [rvs] at r
    obtain ⟨v, r', rfl, h1, h2⟩ := r
    simp only [rv] at h1
    subst h1
    rw [strs_view h h2]
    rfl
theorem rvs_strs {c : Rc} {w : Wd} : ∀ xs : List Str, rvs c w (xs.map D.str) (xs.map V.str)
  | [] => .nil
  | x :: xs => .cons rv_str (rvs_strs xs)
theorem vals_strs : ∀ {us : List Value} {xs : List Str}, StrsAre us xs → Vals (xs.map V.str) us
  | _, _, .nil => .nil
  | _, _, .cons x t r => .cons ⟨t, rfl⟩ (vals_strs r)
/-- the texts of a list or a tuple -/
def txtsOf (s : Sto) (d : D) : Option (List Str) := ((seqOf s d).bind strsOf).filter fun xs => decide (xs.length ≤ 1000)
def mSset (m : Bool) (fa : Fe) : Fe := fun env s => (fa env s).bind fun d s => match txtsOf s d with
  | some xs => ofPo (newL m s ((sT xs).map D.str))
  | none => .bad
def mLset (fa : Fe) : Fe := fun env s => (fa env s).bind fun d s => match txtsOf s d with
  | some xs => .ok (.int ((sT xs).length : Int)) s
  | none => .bad
section
variable {X : Cx} {c : Rc} {W : WX} {a : Expr} {fa : Fe} {p p2 q pos : Pos}
/-- set(a) is made, then Qn looks at it -/
theorem set_made {pins : List (Addr × Obj)} {σ : L2.St} {w : Wd} {st : Sto} {s : Shared} {d : D} {v : V} {u : Value} {xs : List Str} {Qn : Value → Shared → Prop} (hk : c.K = X.K) (hc : X.calm = true) (I : Inv X pins σ w.H s) (r : RelV v u) (rs : Rs c w st) (hd : rv c w d v) (ht : txtsOf st d = some xs)
    (k : ∀ (b : Addr) (s' : Shared), Inv X pins σ w.H s' → TxS X.prog X.w s'.heap b xs → xs.length < scanBound → Qn (.ref b) s') : wpAny (model X.prog X.w) X.A (call (.type "set") [u]) Qn X.xe s := by
  unfold txtsOf at ht
  rw [Option.filter_eq_some_iff] at ht
  obtain ⟨h0, hz⟩ := ht
  obtain ⟨ds, h1, h2⟩ := Option.bind_eq_some_iff.mp h0
  have hz : xs.length ≤ 1000 := of_decide_eq_true hz
  have hb : xs.length + 1 < scanBound := Nat.lt_of_le_of_lt (Nat.succ_le_succ hz) (by decide)
  obtain ⟨b, vs, rfl, hq, hr⟩ := seq_view rs hd h1
  rw [strs_view h2 hr, hk] at hq
  cases r
  have hh := I.ok.hd hc
  rcases hq with hq | hq
  · obtain ⟨its, rr, pl, _⟩ := I.list hq
    exact set_of_list hh pl.isList (by simpa using strsAre_of rr) hb fun h' tk S e => k _ _ (I.kept e) S (by omega)
  · obtain ⟨its, rr, pl, _⟩ := I.tuple hq
    exact set_of_tuple hh pl (by simpa using strsAre_of rr) hb fun h' tk S e => k _ _ (I.kept e) S (by omega)
theorem x_sset {m : Bool} (hk : c.K = X.K) (hc : X.calm = true) (hg : Gl X "sorted") (hm : X.mg "sorted" = none) (hg2 : Gl X "set") (hm2 : X.mg "set" = none) (ha : PE X a (rd c W fa)) (na : starEach [a] X.env = (false, eval a X.env) :: starEach [] X.env) :
    PE X (.Call (.Name "sorted" p) [.Call (.Name "set" p2) [a] [] q] [] pos) (rd c W (mSset m fa)) := by
  refine ⟨fun pins s σ H Q I ⟨w, env, st, hw, hs, he, hp⟩ => ?_⟩
  subst hw
  refine Call_ (ld_blt I hg hm boot_sorted ?_)
  refine callWith_builtin1 (args_cons ?_ rfl) rfl rfl
  refine Call_ (ld_blt (u := .type "set") I hg2 hm2 (by decide +kernel) ?_)
  refine callWith_type1 (args_cons (thn (ha.run pins s σ _ _ I ⟨w, env, st, rfl, hs, he, post_bind hp⟩) fun v s1 ⟨x, H1, I1, r1, w1, d, st1, e1, x1, rs1, q1, p1⟩ => args_nil ?_) na) na rfl
  subst e1
  cases ht : txtsOf st1 d with
  | none => rw [ht] at p1; exact p1.elim
  | some xs =>
    rw [ht] at p1
    have p2 := post_of (show post c W σ w1 (ofPo (newL m st1 ((sT xs).map D.str))) Q from p1)
    refine set_made hk hc I1 r1 rs1 q1 ht fun b s2 I2 S hb => args_nil ?_
    refine sorted_tx S (I2.ok.hd hc) hb fun s3 t out cc ext eg eo tz tAt sx => ?_
    have free : w1.H t = none := I2.hok.fresh tz
    have lz : ((sT xs).map V.str).length ≤ sizeLine := by
      rw [List.length_map]
      exact Nat.le_trans (sT_len xs) (Nat.le_of_lt (Nat.lt_of_lt_of_le hb (by decide)))
    have J : Inv X pins σ (upd w1.H t (.lst ((sT xs).map V.str))) { s2 with heap := s3.heap, gens := s3.gens, drawn := s3.drawn, toks := s3.toks } :=
      I2.call (ch := []) (Un.laid ext tz free) (I2.hok.laid ext tz ⟨lz, out.toList, cc, vals_strs sx, tAt⟩) (by rw [eg]; exact I2.bare) (fun _ z => nomatch z)
    have e3 : s3 = { s2 with heap := s3.heap, gens := s3.gens, drawn := s3.drawn, toks := s3.toks } := by
      cases s3
      cases s2
      cases eo
      rfl
    rw [e3]
    exact ⟨.ref t, _, J, rfl, po_newL rs1 (rvs_strs _) free p2⟩
theorem x_lset (hk : c.K = X.K) (hc : X.calm = true) (hg : Gl X "len") (hm : X.mg "len" = none) (hg2 : Gl X "set") (hm2 : X.mg "set" = none) (ha : PE X a (rd c W fa)) (na : starEach [a] X.env = (false, eval a X.env) :: starEach [] X.env) :
    PE X (.Call (.Name "len" p) [.Call (.Name "set" p2) [a] [] q] [] pos) (rd c W (mLset fa)) := by
  refine ⟨fun pins s σ H Q I ⟨w, env, st, hw, hs, he, hp⟩ => ?_⟩
  subst hw
  refine Call_ (ld_blt I hg hm boot_len ?_)
  refine callWith_builtin1 (args_cons ?_ rfl) rfl rfl
  refine Call_ (ld_blt (u := .type "set") I hg2 hm2 (by decide +kernel) ?_)
  refine callWith_type1 (args_cons (thn (ha.run pins s σ _ _ I ⟨w, env, st, rfl, hs, he, post_bind hp⟩) fun v s1 ⟨x, H1, I1, r1, w1, d, st1, e1, x1, rs1, q1, p1⟩ => args_nil ?_) na) na rfl
  subst e1
  cases ht : txtsOf st1 d with
  | none => rw [ht] at p1; exact p1.elim
  | some xs =>
    rw [ht] at p1
    have p1 : post c W σ w1 (.ok (.int ((sT xs).length : Int)) st1) Q := p1
    refine set_made hk hc I1 r1 rs1 q1 ht fun b s2 I2 S hb => args_nil ?_
    obtain ⟨o, es, ep, t, ho, hx, hd, g, nd, hmm, hz, hf, hr, hl⟩ := S
    have en : es.size = (sT xs).length := by
      have l1 := (pw_nodup (sT_pw xs)).length_le_of_subset fun x hx => (hmm x).mp ((sT_mem x xs).mp hx)
      have l2 := nd.length_le_of_subset fun x hx => (sT_mem x xs).mpr ((hmm x).mpr hx)
      rw [List.length_map] at l1 l2
      have z := es.length_toList
      omega
    refine call_len_set ho hx hd hf (by rw [en]; have z1 := sT_len xs; have z2 : scanBound < 2 ^ 30 := by decide
                                        omega) ⟨.int ((sT xs).length : Int), w1.H, I2.tok _, ⟨_, by rw [en]⟩, p1 w1 _ (.refl w1) rs1 rv_int⟩
end
end Ir
end
section
set_option Elab.async false
set_option linter.all false
set_option maxRecDepth 100000
/-! repr of plain data; instances called -/
namespace Ir
open PySem PySem.Spec PyProof.Rows L2
/-- the text of plain data -/
def apRepr (s : Sto) (d : D) : Po := (pd (look s d)).bind fun p => if p.showable = true ∧ p.hasDict = false ∧ p.depth ≤ 60 ∧ p.shown.length ≤ sizeLine then ret s (.str p.shown) else none
def mRepr (fa : Fe) : Fe := fun env s => (fa env s).bind fun d s => ofPo (apRepr s d)
/-- an instance called -/
def mCallO (kc : Nat) (F : List D → Sto → R D) (fa : Fe) (fs : Fs) : Fe := fun env s => (fa env s).bind fun d s => if isIns s d kc "" = true then (fs env s).bind fun ds s => if isIns s d kc "" = true then F (d :: ds) s else .bad else .bad
section
variable {X : Cx} {c : Rc} {W : WX} {k : Nat} {a e fe : Expr} {es : List Expr} {fa : Fe} {fs : Fs} {p pos : Pos} {f : Addr} {F : List D → Sto → R D} {kc : Nat}
theorem look_dp {w : Wd} {st : Sto} {d : D} {v : V} {p : PyData} (hs : Rs c w st) (hd : rv c w d v) (h : pd (look st d) = some p) : Dp c.K w.H v p := by
  by_cases q : ∃ n, d = .ref n
  · obtain ⟨n, rfl⟩ := q
    have hd' := hd
    simp only [rv] at hd
    obtain ⟨hn, rfl⟩ := hd
    obtain ⟨x, q, r⟩ := hs.at_ hn
    have ex : look st (.ref n) = x := by simp only [look, q, Option.getD_some]
    rw [ex] at h
    cases x <;> try exact r.elim
    · rename_i ds
      obtain ⟨vs, h1, h2⟩ := r
      simp only [pd, Option.map_eq_some_iff] at h
      obtain ⟨ps, e5, rfl⟩ := h
      exact .lst (.inl (.inl h1)) (pds_dp ds ps vs e5 h2)
    · simp [pd] at h
    · simp [pd] at h
  · rw [look_ref fun n e => q ⟨n, e⟩] at h
    exact pd_dp d p v h hd
theorem x_repr (hk : c.K = X.K) (hg : Gl X "repr") (hm : X.mg "repr" = none) (hr : Ir.Room k X.A) (ha : PE X a (rd c W fa)) (na : starEach [a] X.env = (false, eval a X.env) :: starEach [] X.env) : PE X (.Call (.Name "repr" p) [a] [] pos) (rd c W (mRepr fa)) := by
  refine ⟨fun pins s σ H Q I ⟨w, env, st, hw, hs, he, hp⟩ => ?_⟩
  subst hw
  refine Call_ (ld_blt (u := .builtin "repr") I hg hm (by decide +kernel) ?_)
  refine callWith_builtin1 (args_cons (thn (ha.run pins s σ _ _ I ⟨w, env, st, rfl, hs, he, post_bind hp⟩) fun v s1 ⟨x, H1, I1, r1, w1, d, st1, e1, x1, rs1, q1, p1⟩ => args_nil ?_) na) na rfl
  subst e1
  obtain ⟨q, h1, p2⟩ := po_bind (post_of p1)
  obtain ⟨⟨g1, g2, g3, g4⟩, p3⟩ := po_if p2
  have dp := look_dp rs1 q1 h1
  rw [hk] at dp
  obtain ⟨as, rd⟩ := Dp.reads I1 q x v dp r1
  have fin := po_ret rs1 (rv_str (x := q.shown)) p3
  have hu := hr.units
  by_cases hv : ∃ b, v = .ref b
  · obtain ⟨b, rfl⟩ := hv
    exact repr_of_reads' rd g1 (fun z => by rw [g2] at z; cases z) hr.g (by omega) (fun _ _ z => z) (fun h' u tk ext => ⟨.str q.shown, w1.H, I1.kept ext, ⟨u, rfl⟩, fin⟩) g4
  · cases rd with
    | none => exact PySem.P.repr_of_none ⟨.str _, w1.H, I1.tok _, ⟨_, rfl⟩, fin⟩
    | bool b => exact PySem.P.repr_of_bool ⟨.str _, w1.H, I1.tok _, ⟨_, rfl⟩, fin⟩
    | int i t => exact PySem.P.repr_of_int (by simpa [PyData.showable] using g1) ⟨.str _, w1.H, I1.tok _, ⟨_, rfl⟩, fin⟩
    | str x t => exact PySem.P.repr_of_str ⟨.str _, w1.H, I1.tok _, ⟨_, rfl⟩, fin⟩ g4
    | list => exact absurd ⟨_, rfl⟩ hv
    | tuple => exact absurd ⟨_, rfl⟩ hv
    | dict => exact absurd ⟨_, rfl⟩ hv
theorem x_callO (hk : c.K = X.K) (tk : Takes X W) (O : StX.CallO X.K (c.cl kc) f) (K : Ir.FnR X.prog X.w X.K X.mg X.base (L2.CX X.prog X.w) k f (spR c F)) (hr : Ir.Room k X.A) (hf : PE X fe (rd c W fa)) (ha : PA X (e :: es) (rda c W fs)) (hn : noStars (e :: es) = true)
    (ht : eval (.Call fe (e :: es) [] pos) X.env = (do callWith pos (← eval fe X.env) [] (backTo pos (starEach (e :: es) X.env)) (backToKw pos (keywordEach [] X.env)))) : PE X (.Call fe (e :: es) [] pos) (rd c W (mCallO kc F fa fs)) := by
  refine ⟨fun pins s σ H Q I ⟨w, env, st, hw, hs, he, hp⟩ => ?_⟩
  subst hw
  refine Call_ (thn (hf.run pins s σ _ _ I ⟨w, env, st, rfl, hs, he, post_bind hp⟩) fun u s1 ⟨x, H1, I1, r1, w1, d, st1, e1, x1, rs1, q1, p1⟩ => ?_) ht
  subst e1
  split at p1
  · rename_i h0
    obtain ⟨b, dx0, fs0, rfl, _, _⟩ := isIns_ok rs1 q1 h0
    obtain rfl : u = Value.ref b := r1
    obtain ⟨n1, n2⟩ := noStars_cons hn
    refine StX.callO_with (thn (ha.run pos pins s1 σ _ _ I1 ⟨w1, env, st1, rfl, rs1, he.mono x1, posts_bind p1⟩) fun us s2 ⟨vs, H2, I2, r, w2, ds, st2, e2, x2, rs2, q2, p2⟩ => ?_) (star_one n1) (star_any n2)
    subst e2
    split at p2
    · rename_i hi
      have q3 := rv.mono x2 _ _ q1
      obtain ⟨y, dx, fs', ey, h2, _⟩ := isIns_ok rs2 q3 hi
      cases ey
      have hi2 : StX.InsC X w2.H b (c.cl kc) := .inr ⟨dx, fs', h2⟩
      obtain ⟨ox, od, J, hd⟩ := StX.insC_at I2 hi2
      exact ⟨⟨_, ox, od, J, hd⟩, wpAny_call (PySem.W.kco_code I2.kIn J hd O.at_ O.fn O.fi (run_R (us := .ref b :: us) (vs := .ref b :: vs) K hr tk I2 (.cons rfl r) (spR_of rs2 (.cons q3 q2) p2)))⟩
    · exact p2.elim
  · exact p1.elim
end
end Ir
end
section
set_option Elab.async false
set_option linter.all false
set_option maxRecDepth 100000
/-! dicts with keys that are integers or texts; lists repeated, turned round -/
namespace Ir
open PySem PySem.Spec PyProof.Rows L2
def keyD : D → Option Key
  | .int i => some (.inl i)
  | .str x => some (.inr x)
  | _ => none
theorem keyD_kd (k : Key) : keyD (kd k) = some k := by cases k <;> rfl
theorem keyD_eq {d : D} {k : Key} (h : keyD d = some k) : d = kd k := by
  cases d <;> simp only [keyD, Option.some.injEq, reduceCtorEq] at h <;> subst h <;> rfl
theorem kd_inj {a b : Key} (h : kd a = kd b) : a = b := by
  cases a <;> cases b <;> simp only [kd, D.int.injEq, D.str.injEq, reduceCtorEq] at h <;> rw [h]
theorem rv_key {c : Rc} {w : Wd} {d : D} {v : V} {k : Key} (h : rv c w d v) (e : keyD d = some k) : v = kV k := by
  rw [keyD_eq e] at h
  cases k <;> simpa only [kd, rv, kV] using h
/-- what stands at a key -/
def lookD (e : D) : List D → List D → Option D
  | k :: ks, d :: ds => if deq k e = true then some d else lookD e ks ds
  | _, _ => none
def hasD (e : D) (ks : List D) : Bool := ks.any fun k => deq k e
/-- a key's value, in its place or at the end -/
def putKs (e : D) (ks : List D) : List D := if hasD e ks = true then ks else ks ++ [e]
def putVs (e v : D) : List D → List D → List D
  | k :: ks, d :: ds => (if deq k e = true then v else d) :: putVs e v ks ds
  | _, _ => []
def putDs (e v : D) (ks ds : List D) : List D := if hasD e ks = true then putVs e v ks ds else ds ++ [v]
section
variable {c : Rc} {w : Wd}
theorem deq_kd (a b : Key) : deq (kd a) (kd b) = decide (a = b) := by
  rw [Bool.eq_iff_iff, decide_eq_true_eq]
  exact ⟨fun h => kd_inj (deq_eq _ _ h), fun h => by rw [h]; exact deq_refl _⟩
theorem hasD_kv (k : Key) : ∀ kvs : List (Key × V), hasD (kd k) (kvs.map fun q => kd q.1) = kvs.any fun q => decide (q.1 = k)
  | [] => rfl
  | p :: kvs => by
    simp only [hasD, List.map_cons, List.any_cons, deq_kd]
    exact congrArg _ (hasD_kv k kvs)
theorem lookD_kv {k : Key} : ∀ {kvs : List (Key × V)} {ds : List D}, rvs c w ds (kvs.map (·.2)) → match lookD (kd k) (kvs.map fun q => kd q.1) ds with
    | some d => ∃ v, valV kvs k = some v ∧ rv c w d v
    | none => valV kvs k = none
  | [], ds, r => by simp only [List.map_nil, lookD]; rfl
  | p :: kvs, ds, r => by
    cases ds with
    | nil => have := r.length; simp at this
    | cons d ds =>
      simp only [List.map_cons, rvs, List.cons.injEq] at r
      obtain ⟨v, r', ⟨rfl, rfl⟩, h1, h2⟩ := r
      simp only [List.map_cons, lookD, deq_kd, decide_eq_true_eq]
      by_cases e : p.1 = k
      · rw [if_pos e]
        exact ⟨p.2, valV_pos e, h1⟩
      · rw [if_neg e, valV_neg e]
        exact lookD_kv h2
theorem putVs_kv {k : Key} {v : V} {d0 : D} (h0 : rv c w d0 v) : ∀ {kvs : List (Key × V)} {ds : List D}, rvs c w ds (kvs.map (·.2)) → rvs c w (putVs (kd k) d0 (kvs.map fun q => kd q.1) ds) ((kvs.map fun q => if q.1 = k then (q.1, v) else q).map (·.2))
  | [], ds, r => by simp only [List.map_nil, putVs]; exact .nil
  | p :: kvs, ds, r => by
    cases ds with
    | nil => have := r.length; simp at this
    | cons d ds =>
      simp only [List.map_cons, rvs, List.cons.injEq] at r
      obtain ⟨u, r', ⟨rfl, rfl⟩, h1, h2⟩ := r
      simp only [List.map_cons, putVs, deq_kd, decide_eq_true_eq]
      by_cases e : p.1 = k
      · rw [if_pos e, if_pos e]
        exact .cons h0 (putVs_kv h0 h2)
      · rw [if_neg e, if_neg e]
        exact .cons h1 (putVs_kv h0 h2)
theorem put_kv {k : Key} {v : V} {d0 : D} {kvs : List (Key × V)} {ds : List D} (h0 : rv c w d0 v) (r : rvs c w ds (kvs.map (·.2))) :
    putKs (kd k) (kvs.map fun q => kd q.1) = (putK kvs k v).map (fun q => kd q.1) ∧ rvs c w (putDs (kd k) d0 (kvs.map fun q => kd q.1) ds) ((putK kvs k v).map (·.2)) := by
  unfold putKs putDs putK
  rw [hasD_kv]
  by_cases h : (kvs.any fun q => decide (q.1 = k)) = true
  · rw [if_pos h, if_pos h, if_pos h]
    refine ⟨?_, putVs_kv h0 r⟩
    rw [List.map_map]
    refine List.map_congr_left fun q _ => ?_
    simp only [Function.comp]
    split <;> rfl
  · rw [if_neg h, if_neg h, if_neg h]
    refine ⟨by simp, ?_⟩
    rw [List.map_append]
    exact r.append (.cons h0 .nil)
/-- a dict that is told: its keys are none of the tuples' -/
def plainK (ks : List D) : Bool := ks.all fun k => (keyD k).isSome
theorem dict_view {s : Sto} {d : D} {v : V} {ks ds : List D} (hs : Rs c w s) (h : rv c w d v) (l : look s d = .dic ks ds) : ∃ a vs, v = .ref a ∧ IsDic w.H a ks vs ∧ rvs c w ds vs := by
  cases d <;> simp only [look] at l <;> try cases l
  · simp only [rv] at h
    obtain ⟨a, vs, h1, _, h2, h3⟩ := h
    exact ⟨a, vs, h1, h2, h3⟩
  · rename_i n
    simp only [rv] at h
    obtain ⟨hn, rfl⟩ := h
    obtain ⟨e, q, r⟩ := hs.at_ hn
    rw [q] at l
    simp only [Option.getD_some] at l
    subst l
    obtain ⟨vs, h1, h2⟩ := r
    exact ⟨_, vs, rfl, h1, h2⟩
theorem dic_k {H : Hp} {a : Addr} {ks : List D} {vs : List V} (h : IsDic H a ks vs) (p : plainK ks = true) : ∃ kvs : List (Key × V), H a = some (.dK kvs) ∧ ks = kvs.map (fun q => kd q.1) ∧ vs = kvs.map (·.2) := by
  rcases h with h | ⟨kvs, _, e, _⟩
  · exact h
  · subst e
    simp [plainK, keyD] at p
end
/-- a new dict: one that may change (m), or one that stays -/
def newD (m : Bool) (s : Sto) (ks ds : List D) : Po := if m then some (.ref s.length, s ++ [.dic ks ds]) else some (.dic ks ds, s)
theorem po_newD {c : Rc} {w : Wd} {s : Sto} {m : Bool} {Q : VK} {ks ds : List D} {kvs : List (Key × V)} {p : Addr} (hs : Rs c w s) (e : ks = kvs.map fun q => kd q.1) (r : rvs c w ds (kvs.map (·.2))) (n : w.H p = none) (h : po c w (newD m s ks ds) Q) : Q (.ref p) (upd w.H p (.dK kvs)) := by
  unfold newD at h
  cases m with
  | false =>
    refine h (w.frz p (.dK kvs)) (.ref p) (.frz hs n) (.frz hs n fun ps e => by cases e) ?_
    simp only [rv]
    exact ⟨p, _, rfl, .inr rfl, .inl ⟨kvs, upd_same, e, rfl⟩, r.mono (.frz hs n)⟩
  | true =>
    refine h (w.new p (.dK kvs)) (.ref p) (.new hs n) (.new hs n ⟨_, .inl ⟨kvs, upd_same, e, rfl⟩, r.mono (.new hs n)⟩) ?_
    simp only [rv]
    rw [← hs.len]
    exact ⟨Nat.lt_succ_self _, by rw [new_eta]⟩
/-! reading -/
def apDx (s : Sto) (d e : D) : Po := match look s d with
  | .dic ks ds => if plainK ks = true ∧ (keyD e).isSome = true then (lookD e ks ds).bind fun x => ret s x else none
  | _ => none
def mDx (fa fb : Fe) : Fe := fun env s => (fa env s).bind fun d s => (fb env s).bind fun e s => ofPo (apDx s d e)
def apDin (neg : Bool) (s : Sto) (e d : D) : Po := match look s d with
  | .dic ks _ => if plainK ks = true ∧ (keyD e).isSome = true then ret s (.bl (if neg = true then !hasD e ks else hasD e ks)) else none
  | _ => none
def mDin (neg : Bool) (fa fb : Fe) : Fe := fun env s => (fa env s).bind fun e s => (fb env s).bind fun d s => ofPo (apDin neg s e d)
section
variable {X : Cx} {c : Rc} {W : WX} {a b e : Expr} {fa fb fc : Fe} {pos : Pos}
theorem lookD_has (e : D) : ∀ (ks ds : List D), ks.length = ds.length → (lookD e ks ds).isSome = hasD e ks
  | [], _, _ => by simp [lookD, hasD]
  | k :: ks, [], h => by simp at h
  | k :: ks, d :: ds, h => by
    simp only [lookD, hasD, List.any_cons]
    by_cases q : deq k e = true
    · rw [if_pos q, q]; rfl
    · rw [if_neg q, Bool.not_eq_true _ |>.mp q, Bool.false_or]
      exact lookD_has e ks ds (by simpa using h)
theorem noSl {i : Expr} (h : notSlice i = true) : NoSl i := fun o j => by
  cases i <;> first | rfl | cases h
theorem x_dx (hu : X.A.units + 1 < cLine) (ha : PE X a (rd c W fa)) (hb : PE X b (rd c W fb)) (hn : notSlice b = true) : PE X (.Subscript a b pos) (rd c W (mDx fa fb)) := (pe_dget hu ha hb (noSl hn)).imp fun σ H Q ⟨w, env, s, hw, hs, he, hp⟩ => by
  subst hw
  refine ⟨w, env, s, rfl, hs, he, (post_bind hp).mono fun x H1 ⟨w1, d, s1, e1, x1, r1, q1, p1⟩ => ?_⟩
  subst e1
  refine ⟨w1, env, s1, rfl, r1, he.mono x1, (post_bind p1).mono fun y H2 ⟨w2, k, s2, e2, x2, r2, q2, p2⟩ => ?_⟩
  subst e2
  have p3 := post_of p2
  unfold apDx at p3
  split at p3
  · rename_i ks ds hl
    obtain ⟨⟨g1, g2⟩, p4⟩ := po_if p3
    obtain ⟨z, g3, p5⟩ := po_bind p4
    obtain ⟨ad, vs, rfl, g4, g5⟩ := dict_view r2 (rv.mono x2 _ _ q1) hl
    obtain ⟨kvs, g6, rfl, rfl⟩ := dic_k g4 g1
    obtain ⟨key, g7⟩ := Option.isSome_iff_exists.mp g2
    have g8 := keyD_eq g7
    subst g8
    have g9 := lookD_kv (k := key) g5
    rw [g3] at g9
    obtain ⟨v, g10, g11⟩ := g9
    refine ⟨ad, v, rfl, ?_, po_ret r2 g11 p5⟩
    rw [rv_key q2 g7, ← g10]
    exact .k g6
  · exact p3.elim
theorem din_core {neg : Bool} {σ : L2.St} {H : Hp} {Q : VK} (h : rd c W (mDin neg fa fb) σ H Q) : rd c W fa σ H fun y H1 => rd c W fb σ H1 fun x H2 => ∃ ad o, x = .ref ad ∧ DGet H2 ad y o ∧ Q (.bl (if neg = true then !o.isSome else o.isSome)) H2 := by
  obtain ⟨w, env, s, hw, hs, he, hp⟩ := h
  subst hw
  refine ⟨w, env, s, rfl, hs, he, (post_bind hp).mono fun y H1 ⟨w1, k, s1, e1, x1, r1, q1, p1⟩ => ?_⟩
  subst e1
  refine ⟨w1, env, s1, rfl, r1, he.mono x1, (post_bind p1).mono fun x H2 ⟨w2, d, s2, e2, x2, r2, q2, p2⟩ => ?_⟩
  subst e2
  have p3 := post_of p2
  unfold apDin at p3
  split at p3
  · rename_i ks ds hl
    obtain ⟨⟨g1, g2⟩, p4⟩ := po_if p3
    obtain ⟨ad, vs, rfl, g4, g5⟩ := dict_view r2 q2 hl
    obtain ⟨kvs, g6, rfl, rfl⟩ := dic_k g4 g1
    obtain ⟨key, g7⟩ := Option.isSome_iff_exists.mp g2
    have g8 := keyD_eq g7
    subst g8
    have g9 := lookD_kv (k := key) g5
    have g10 := lookD_has (kd key) (kvs.map fun q => kd q.1) ds (by rw [g5.length]; simp)
    have g11 : (valV kvs key).isSome = hasD (kd key) (kvs.map fun q => kd q.1) := by
      rw [← g10]
      cases hq : lookD (kd key) (kvs.map fun q => kd q.1) ds with
      | none => rw [hq] at g9; rw [g9]; rfl
      | some z => rw [hq] at g9; obtain ⟨v, g, _⟩ := g9; rw [g]; rfl
    refine ⟨ad, valV kvs key, rfl, ?_, ?_⟩
    · rw [rv_key (rv.mono x2 _ _ q1) g7]
      exact .k g6
    · rw [g11]
      exact po_ret r2 rv_bl p4
  · exact p3.elim
theorem c_din (hu : X.A.units + 1 < cLine) (ha : PE X a (rd c W fa)) (hb : PE X b (rd c W fb)) : PC X .In a b (rd c W (mDin false fa fb)) := ⟨fun pins s σ H Q I h => (pc_din hu ha hb).run pins s σ H Q I (din_core h)⟩
theorem c_dnin (hu : X.A.units + 1 < cLine) (ha : PE X a (rd c W fa)) (hb : PE X b (rd c W fb)) : PC X .NotIn a b (rd c W (mDin true fa fb)) := ⟨fun pins s σ H Q I h => (pc_dnotin hu ha hb).run pins s σ H Q I (din_core h)⟩
/-! storing -/
def stD (s : Sto) (d e v : D) : Option Sto := match d with
  | .ref n => match s[n]? with
    | some (.dic ks ds) => if plainK ks = true ∧ (keyD e).isSome = true ∧ ks.length < sizeLine then some (s.set n (.dic (putKs e ks) (putDs e v ks ds))) else none
    | _ => none
  | _ => none
def sDput (fo fi fv : Fe) : Fst := fun env s => (fv env s).st env fun v s => (fo env s).st env fun d s => (fi env s).st env fun i s => match stD s d i v with
  | some s => .nx env s
  | none => .bad
theorem stD_ok {w : Wd} {s s' : Sto} {d i v : D} {dv iv vv : V} (hs : Rs c w s) (h1 : rv c w d dv) (h2 : rv c w i iv) (h3 : rv c w v vv) (h : stD s d i v = some s') : ∃ (ad : Addr) (H4 : Hp) (w' : Wd), dv = .ref ad ∧ DPut w.H ad iv vv H4 ∧ w'.H = H4 ∧ Ext w w' ∧ Rs c w' s' := by
  unfold stD at h
  split at h
  · rename_i n
    split at h
    · rename_i ks ds hds
      split at h
      · rename_i hh
        obtain ⟨g1, g2, g3⟩ := hh
        cases h
        simp only [rv] at h1
        obtain ⟨hn, rfl⟩ := h1
        obtain ⟨vs, h5, h6⟩ := hs.obj n _ hds
        obtain ⟨kvs, h7, rfl, rfl⟩ := dic_k h5 g1
        obtain ⟨key, g4⟩ := Option.isSome_iff_exists.mp g2
        rw [rv_key h2 g4]
        have g5 := keyD_eq g4
        subst g5
        obtain ⟨e1, e2⟩ := put_kv (k := key) h3 h6
        rw [List.length_map] at g3
        refine ⟨_, _, w.lay (w.η n) (.dK (putK kvs key vv)), rfl, .k h7 g3, rfl, .write hs hn, .write hs hn ⟨_, .inl ⟨putK kvs key vv, upd_same, e1, rfl⟩, e2.mono (.write hs hn)⟩⟩
      · cases h
    · cases h
  · cases h
theorem s_dput {p2 : Pos} (hu : X.A.units + 1 < cLine) (ha : PE X a (rd c W fa)) (hb : PE X b (rd c W fb)) (hv : PE X e (rd c W fc)) (hs : swapsWith e (some (.Subscript a b p2)) pos.line X.env = pure false) :
    PS X (.Assign [.Subscript a b p2] e pos) (rds c W (sDput fa fb fc)) := (ps_dput hu ha hb hv hs).imp fun E σ H ⟨w, env, s, hw, hs, he, hp⟩ => by
  subst hw
  refine ⟨w, env, s, rfl, hs, he, (st_bind he hp).mono fun v H1 ⟨w1, d1, s1, e1, x1, r1, q1, p1⟩ => ?_⟩
  subst e1
  refine ⟨w1, env, s1, rfl, r1, he.mono x1, (st_bind (he.mono x1) p1).mono fun ov H2 ⟨w2, d2, s2, e2, x2, r2, q2, p2⟩ => ?_⟩
  subst e2
  refine ⟨w2, env, s2, rfl, r2, (he.mono x1).mono x2, (st_bind ((he.mono x1).mono x2) p2).mono fun iv H3 ⟨w3, d3, s3, e3, x3, r3, q3, p3⟩ => ?_⟩
  subst e3
  cases hq : stD s3 d2 d3 d1 with
  | none => rw [hq] at p3; exact p3.elim
  | some s4 =>
    rw [hq] at p3
    obtain ⟨ad, H4, w4, g1, g2, rfl, x4, r4⟩ := stD_ok r3 (rv.mono x3 _ _ q2) q3 (rv.mono (x2.trans x3) _ _ q1) hq
    exact ⟨ad, _, g1, g2, p3 w4 σ x4 r4 ((((he.mono x1).mono x2).mono x3).mono x4)⟩
/-! dict(d), list(d) -/
def apDcpy (m : Bool) (s : Sto) (d : D) : Po := match look s d with
  | .dic ks ds => if plainK ks = true then newD m s ks ds else none
  | _ => none
def apDlst (m : Bool) (s : Sto) (d : D) : Po := match look s d with
  | .dic ks _ => if plainK ks = true then newL m s ks else none
  | _ => none
theorem rvs_keys {w : Wd} : ∀ kvs : List (Key × V), rvs c w (kvs.map fun q => kd q.1) (kvs.map fun q => kV q.1)
  | [] => .nil
  | (.inl i, v) :: kvs => .cons (by simp only [kd, rv, kV]) (rvs_keys kvs)
  | (.inr x, v) :: kvs => .cons (by simp only [kd, rv, kV]) (rvs_keys kvs)
/-- a call of a builtin class by its meaning -/
theorem x_ty1 {x0 : Str} {ty : String} {p : Pos} {g : Sto → D → Po} {r : List V → Hp → VK → Prop} (hr : CallR X (.type ty) r) (hg : Gl X x0) (hm : X.mg x0 = none) (hv : bootBuiltins x0 = some (.type ty)) (hnm : x0 ≠ "__name__") (hdb : (x0 == ("__debug__" : Str)) = false) (ha : PE X a (rd c W fa)) (na : starEach [a] X.env = (false, eval a X.env) :: starEach [] X.env)
    (h : ∀ (w : Wd) (s : Sto) (d : D) (v : V) (Q : VK), Rs c w s → rv c w d v → po c w (g s d) Q → r [v] w.H Q) : PE X (.Call (.Name x0 p) [a] [] pos) (rd c W fun env s => (fa env s).bind fun d s => ofPo (g s d)) := by
  refine ⟨fun pins s σ H Q I ⟨w, env, st, hw, hs, he, hp⟩ => ?_⟩
  subst hw
  refine Call_ (ld_blt I hg hm hv ?_ hnm hdb)
  refine callWith_type1 (args_cons (thn (ha.run pins s σ _ _ I ⟨w, env, st, rfl, hs, he, post_bind hp⟩) fun v s1 ⟨x, H1, I1, r1, w1, d, st1, e1, x1, rs1, q1, p1⟩ => args_nil ?_) na) na rfl
  subst e1
  exact hr pins s1 σ w1.H [x] [v] Q I1 (.cons r1 .nil) (h w1 st1 d x Q rs1 q1 (post_of p1))
def mDcpy (m : Bool) (fa : Fe) : Fe := fun env s => (fa env s).bind fun d s => ofPo (apDcpy m s d)
def mDlst (m : Bool) (fa : Fe) : Fe := fun env s => (fa env s).bind fun d s => ofPo (apDlst m s d)
theorem x_dcpy {m : Bool} {p : Pos} (hg : Gl X "dict") (hm : X.mg "dict" = none) (ha : PE X a (rd c W fa)) (na : starEach [a] X.env = (false, eval a X.env) :: starEach [] X.env) : PE X (.Call (.Name "dict" p) [a] [] pos) (rd c W (mDcpy m fa)) :=
  x_ty1 (g := apDcpy m) call_dictD hg hm (by decide +kernel) (by decide) (by decide) ha na fun w s d v Q hs hd hp => by
    unfold apDcpy at hp
    split at hp
    · rename_i ks ds hl
      obtain ⟨g1, g2⟩ := po_if hp
      obtain ⟨ad, vs, rfl, g4, g5⟩ := dict_view hs hd hl
      obtain ⟨kvs, g6, rfl, rfl⟩ := dic_k g4 g1
      exact ⟨ad, kvs, rfl, .inl g6, fun q hq => po_newD hs rfl g5 hq g2⟩
    · exact hp.elim
theorem x_dlst {m : Bool} {p : Pos} (hc : X.calm = true) (hg : Gl X "list") (hm : X.mg "list" = none) (ha : PE X a (rd c W fa)) (na : starEach [a] X.env = (false, eval a X.env) :: starEach [] X.env) : PE X (.Call (.Name "list" p) [a] [] pos) (rd c W (mDlst m fa)) :=
  x_ty1 (g := apDlst m) (call_listD hc) hg hm (by decide +kernel) (by decide) (by decide) ha na fun w s d v Q hs hd hp => by
    unfold apDlst at hp
    split at hp
    · rename_i ks ds hl
      obtain ⟨g1, g2⟩ := po_if hp
      obtain ⟨ad, vs, rfl, g4, g5⟩ := dict_view hs hd hl
      obtain ⟨kvs, g6, rfl, rfl⟩ := dic_k g4 g1
      exact ⟨ad, kvs, rfl, .inl g6, fun q hq => po_newL hs (rvs_keys kvs) hq g2⟩
    · exact hp.elim
/-! dict(pairs), the keys all different -/
def pairD : D → Option (D × D)
  | .tup [k, v] => if (keyD k).isSome = true then some (k, v) else none
  | _ => none
def pairsD : List D → Option (List D × List D)
  | [] => some ([], [])
  | d :: ds => (pairD d).bind fun p => (pairsD ds).map fun q => (p.1 :: q.1, p.2 :: q.2)
def distD : List D → Bool
  | [] => true
  | k :: ks => !hasD k ks && distD ks
def apDpr (m : Bool) (s : Sto) (d : D) : Po := match look s d with
  | .lst ps => (pairsD ps).bind fun q => if distD q.1 = true then newD m s q.1 q.2 else none
  | _ => none
def mDpr (m : Bool) (fa : Fe) : Fe := fun env s => (fa env s).bind fun d s => ofPo (apDpr m s d)
theorem dist_kv : ∀ {kvs : List (Key × V)}, distD (kvs.map fun q => kd q.1) = true → (kvs.map (·.1)).Nodup
  | [], _ => .nil
  | p :: kvs, h => by
    simp only [List.map_cons, distD, Bool.and_eq_true, Bool.not_eq_true'] at h
    rw [List.map_cons, List.nodup_cons]
    refine ⟨fun z => ?_, dist_kv h.2⟩
    obtain ⟨q, hq, e⟩ := List.mem_map.mp z
    have := h.1
    rw [hasD_kv, List.any_eq_false] at this
    exact this q hq (decide_eq_true e)
theorem merge_app : ∀ (more kvs : List (Key × V)), ((kvs ++ more).map (·.1)).Nodup → mergeK kvs more = kvs ++ more
  | [], kvs, _ => by simp [mergeK]
  | p :: more, kvs, h => by
    have hn : valV kvs p.1 = none := by
      cases hv : valV kvs p.1 with
      | none => rfl
      | some v =>
        have e := valV_any p.1 kvs
        rw [hv] at e
        obtain ⟨q, hq, e2⟩ := List.any_eq_true.mp (show (kvs.any fun kv => decide (kv.1 = p.1)) = true from e)
        rw [List.map_append, List.nodup_append] at h
        exact absurd (of_decide_eq_true e2) (h.2.2 q.1 (List.mem_map.mpr ⟨q, hq, rfl⟩) p.1 (by simp))
    show mergeK (putK kvs p.1 p.2) more = _
    rw [putK_new p.2 hn, merge_app more (kvs ++ [p]) (by simpa using h)]
    simp
theorem merge_nil {kvs : List (Key × V)} (h : (kvs.map (·.1)).Nodup) : mergeK [] kvs = kvs := merge_app kvs [] h
theorem pairs_view {w : Wd} : ∀ {ps : List D} {q : List D × List D} {vs : List V}, pairsD ps = some q → rvs c w ps vs → ∃ (as : List Addr) (kvs : List (Key × V)), vs = as.map V.ref ∧ q.1 = (kvs.map fun p => kd p.1) ∧ rvs c w q.2 (kvs.map (·.2)) ∧ Paired (fun p kv => SqT c.K w.H p [kV kv.1, kv.2]) as kvs
  | [], q, vs, h, r => by
    simp only [pairsD, Option.some.injEq] at h
    simp only [rvs] at r
    subst h r
    exact ⟨[], [], rfl, rfl, .nil, .nil⟩
  | d :: ps, q, vs, h, r => by
    simp only [pairsD] at h
    obtain ⟨p, h1, h2⟩ := Option.bind_eq_some_iff.mp h
    obtain ⟨q2, h3, rfl⟩ := Option.map_eq_some_iff.mp h2
    simp only [rvs] at r
    obtain ⟨v, r', rfl, g1, g2⟩ := r
    obtain ⟨as, kvs, rfl, e1, e2, e3⟩ := pairs_view h3 g2
    unfold pairD at h1
    split at h1
    · rename_i k0 v0
      split at h1
      · rename_i hk
        cases h1
        obtain ⟨key, hk⟩ := Option.isSome_iff_exists.mp hk
        simp only [rv] at g1
        obtain ⟨b, us, rfl, g3, g4⟩ := g1
        obtain ⟨u1, u2, rfl, g5, g6⟩ := rvs2 g4
        have g7 := rv_key g5 hk
        subst g7
        refine ⟨b :: as, (key, u2) :: kvs, rfl, ?_, .cons g6 e2, .cons g3.sq e3⟩
        show k0 :: q2.1 = kd key :: _
        rw [keyD_eq hk, e1]
      · cases h1
    · cases h1
theorem x_dpr {m : Bool} {p : Pos} (hk : c.K = X.K) (hc : X.calm = true) (hg : Gl X "dict") (hm : X.mg "dict" = none) (ha : PE X a (rd c W fa)) (na : starEach [a] X.env = (false, eval a X.env) :: starEach [] X.env) : PE X (.Call (.Name "dict" p) [a] [] pos) (rd c W (mDpr m fa)) :=
  x_ty1 (g := apDpr m) (call_dictP hc) hg hm (by decide +kernel) (by decide) (by decide) ha na fun w s d v Q hs hd hp => by
    unfold apDpr at hp
    split at hp
    · rename_i ps hl
      obtain ⟨q, g1, g2⟩ := po_bind hp
      obtain ⟨g3, g4⟩ := po_if g2
      obtain ⟨ad, vs, rfl, g5, g6⟩ := look_lst hs hd hl
      obtain ⟨as, kvs, rfl, e1, e2, e3⟩ := pairs_view g1 g6
      rw [hk] at g5 e3
      refine ⟨ad, as, kvs, rfl, g5, e3, fun z hz => ?_⟩
      rw [e1] at g3
      rw [merge_nil (dist_kv g3)]
      exact po_newD hs e1 e2 hz g4
    · exact hp.elim
end
end Ir
end
section
set_option Elab.async false
set_option linter.all false
set_option maxRecDepth 100000
/-! displays of dicts; equal dicts; lists repeated, turned round -/
namespace Ir
open PySem PySem.Spec PyProof.Rows L2
/-! ### by-value operations -/
inductive All2 (X : Cx) (c : Rc) (W : WX) : List Fe → List Expr → Prop where
  | nil : All2 X c W [] []
  | cons {f : Fe} {e : Expr} {fs : List Fe} {es : List Expr} (h : PE X e (rd c W f)) (t : All2 X c W fs es) : All2 X c W (f :: fs) (e :: es)
def seqFs : List Fe → Fs
  | [] => sNil
  | f :: fs => sCons f (seqFs fs)
/-! {k: v, ..}, the keys written and different -/
def keyE (k : Key) : Option Expr → Bool
  | some (.Constant (.int i) _ _) => decide (k = .inl i)
  | some (.Constant (.str x) _ _) => decide (k = .inr x)
  | _ => false
def keysE : List Key → List (Option Expr) → Bool
  | [], [] => true
  | k :: ks, e :: es => keyE k e && keysE ks es
  | _, _ => false
def mDsp (m : Bool) (ks : List Key) (fs : Fs) : Fe := fun env s => (fs env (s ++ [.dic [] []])).bind fun ds s2 => match s2[s.length]? with
  | some (.dic [] []) => if ks.length = ds.length ∧ distD (ks.map kd) = true then
      (if m = true then .ok (.ref s.length) (s2.set s.length (.dic (ks.map kd) ds)) else leave s (s2.set s.length (.dic (ks.map kd) ds)) (.ref s.length)) else .bad
  | _ => .bad
section
variable {X : Cx} {c : Rc} {W : WX} {a b e : Expr} {fa fb : Fe} {pos : Pos} {fs : List Fe} {es : List Expr}
theorem disp_pairs (h : All2 X c W fs es) : ∀ {ks : List Key} {keys : List (Option Expr)}, keysE ks keys = true → ks.length = es.length → ∃ trs, PPs X pos keys es trs ∧ ∀ (σ : L2.St) (H : Hp) (Q : List (V × V) → Hp → Prop), rda c W (seqFs fs) σ H (fun vs H2 => Q ((ks.map kV).zip vs) H2) → tPairs trs σ H Q := by
  induction h with
  | nil =>
    intro ks keys hk hl
    have hl : ks = [] := List.length_eq_zero_iff.mp hl
    subst hl
    cases keys with
    | cons _ _ => cases hk
    | nil => exact ⟨[], pps_nil, fun σ H Q hq => rda_nil hq⟩
  | @cons f e0 fs es hp ht ih =>
    intro ks keys hk hl
    cases ks with
    | nil => cases hl
    | cons k ks =>
      cases keys with
      | nil => cases hk
      | cons ke keys =>
        simp only [keysE, Bool.and_eq_true] at hk
        obtain ⟨trs, g1, g2⟩ := ih hk.2 (by simpa using hl)
        have key : ∃ x, ke = some x ∧ PE X x (tC (kV k)) := by
          have h1 := hk.1
          unfold keyE at h1
          split at h1
          · rw [of_decide_eq_true h1]; exact ⟨_, rfl, pe_int⟩
          · rw [of_decide_eq_true h1]; exact ⟨_, rfl, pe_str⟩
          · cases h1
        obtain ⟨x, rfl, hx⟩ := key
        refine ⟨_, pps_cons hx hp g1, fun σ H Q hq => ?_⟩
        obtain ⟨w, env, s, hw, hs, he, hp⟩ := rda_cons hq
        exact ⟨w, env, s, hw, hs, he, hp.mono fun x H1 h1 => g2 σ H1 _ h1⟩
theorem zip_kv {w : Wd} : ∀ {ks : List Key} {ds : List D} {vs : List V}, ks.length = ds.length → rvs c w ds vs → ∃ kvs : List (Key × V), (ks.map kV).zip vs = kvs.map (fun kv => (kV kv.1, kv.2)) ∧ ks.map kd = kvs.map (fun q => kd q.1) ∧ vs = kvs.map (·.2)
  | [], ds, vs, h, r => by
    have := r.length
    have e : vs = [] := List.length_eq_zero_iff.mp (by simp at h; omega)
    subst e
    exact ⟨[], rfl, rfl, rfl⟩
  | k :: ks, [], vs, h, r => by simp at h
  | k :: ks, d :: ds, vs, h, r => by
    simp only [rvs] at r
    obtain ⟨v, r', rfl, h1, h2⟩ := r
    obtain ⟨kvs, e1, e2, e3⟩ := zip_kv (by simpa using h) h2
    exact ⟨(k, v) :: kvs, by simp [e1], by simp [e2], by simp [e3]⟩
theorem keysE_len : ∀ {ks : List Key} {keys : List (Option Expr)}, keysE ks keys = true → keys.length = ks.length ∧ keys.all (·.isSome) = true
  | [], [], _ => ⟨rfl, rfl⟩
  | k :: ks, e :: es, h => by
    simp only [keysE, Bool.and_eq_true] at h
    obtain ⟨g1, g2⟩ := keysE_len h.2
    refine ⟨by simp [g1], ?_⟩
    simp only [List.all_cons, g2, Bool.and_true]
    have h1 := h.1
    unfold keyE at h1
    split at h1 <;> first | rfl | cases h1
  | [], _ :: _, h => by cases h
  | _ :: _, [], h => by cases h
theorem posts_bind0 {σ : L2.St} {w w1 : Wd} {f : R (List D)} {g : List D → Sto → R D} {Q : VK} (h : post c W σ w (f.bind g) Q) (x : Ext w w1) : posts c W σ w1 f fun vs H1 => ∃ (w' : Wd) (ds : List D) (s' : Sto), w'.H = H1 ∧ Ext w1 w' ∧ Rs c w' s' ∧ rvs c w' ds vs ∧ post c W σ w (g ds s') Q := by
  cases f with
  | ok d s => exact fun w' v e r q => ⟨w', d, s, rfl, e, r, q, h⟩
  | ex k ds s => exact fun w' dx e => h w' dx (x.trans e)
  | bad => exact h
theorem x_dsp {m : Bool} {ks : List Key} {keys : List (Option Expr)} (h : All2 X c W fs es) (hk : keysE ks keys = true) (hl : ks.length = es.length) (h0 : ks ≠ []) (h15 : ks.length ≤ 15) : PE X (.Dict keys es pos) (rd c W (mDsp m ks (seqFs fs))) := by
  obtain ⟨trs, g1, g2⟩ := disp_pairs h hk hl
  obtain ⟨k1, k2⟩ := keysE_len hk
  refine (pe_disp g1 k2 (by rw [k1, hl]) (fun z => h0 (List.length_eq_zero_iff.mp (by rw [← k1, z]; rfl))) (by rw [k1]; exact h15)).imp fun σ H Q ⟨w, env, s, hw, hs, he, hp⟩ => ?_
  subst hw
  intro p hn
  refine g2 σ _ _ ?_
  have hd : ro c (w.new p (.dK [])) (.dic [] []) p := ⟨[], .inl ⟨[], upd_same, rfl, rfl⟩, .nil⟩
  have x0 := Ext.new (o := .dK []) hs hn
  have r0 := Rs.new hs hn hd
  refine ⟨w.new p (.dK []), env, _, rfl, r0, he.mono x0, (posts_bind0 hp x0).mono fun vs H2 ⟨w2, ds, s2, e2, x2, r2, q2, p2⟩ => ?_⟩
  subst e2
  have ns : s.length < w2.N := by
    have a1 := x2.n
    have a2 : (w.new p (.dK [])).N = w.N + 1 := rfl
    have a3 := hs.len
    omega
  have eta : w2.η s.length = p := by
    rw [x2.eta s.length (by show s.length < w.N + 1; rw [hs.len]; omega), ← hs.len]
    exact new_eta
  split at p2
  · rename_i hq
    have at0 : w2.H p = some (.dK []) := by
      obtain ⟨us, i1, i2⟩ := r2.obj _ _ hq
      rw [eta] at i1
      obtain ⟨kvs, i3, i4, _⟩ := dic_k i1 rfl
      have : kvs = [] := by cases kvs with
        | nil => rfl
        | cons a l => simp at i4
      rw [i3, this]
    split at p2
    · rename_i hh
      obtain ⟨j1, j2⟩ := hh
      obtain ⟨kvs, j3, j4, j5⟩ := zip_kv j1 q2
      have j6 : kvs.length = ks.length := by have := congrArg List.length j4; simpa using this.symm
      refine ⟨at0, kvs, j3, by omega, ?_⟩
      rw [j4] at j2 p2
      rw [merge_nil (dist_kv j2)]
      rw [j5] at q2
      have wr := Rs.write (o := .dK kvs) (d := .dic (kvs.map fun q => kd q.1) ds) r2 ns ⟨_, .inl ⟨kvs, upd_same, rfl, rfl⟩, q2.mono (.write r2 ns)⟩
      have xw := Ext.write (o := .dK kvs) r2 ns
      rw [eta] at wr xw
      have rvN : rv c (w2.lay p (.dK kvs)) (.ref s.length) (.ref p) := by
        simp only [rv]
        exact ⟨ns, by rw [show (w2.lay p (.dK kvs)).η s.length = w2.η s.length from rfl, eta]⟩
      split at p2
      · exact p2 _ _ (x0.trans (x2.trans xw)) wr rvN
      · exact leave_ok (σ := σ) hs (x0.trans (x2.trans xw)) wr rvN p2
    · exact p2.elim
  · exact p2.elim
/-! two-place operations by any meaning -/
def r2g (c : Rc) (g : Sto → D → D → Po) : R2 := fun x y H Q => ∃ (w : Wd) (s : Sto) (d e : D), w.H = H ∧ Rs c w s ∧ rv c w d x ∧ rv c w e y ∧ po c w (g s d e) Q
def m2g (g : Sto → D → D → Po) (fa fb : Fe) : Fe := fun env s => (fa env s).bind fun d s => (fb env s).bind fun e s => ofPo (g s d e)
theorem rd_op2g {g : Sto → D → D → Po} {σ : L2.St} {H : Hp} {Q : VK} (h : rd c W (m2g g fa fb) σ H Q) : tOp (r2g c g) (rd c W fa) (rd c W fb) σ H Q := by
  obtain ⟨w, env, s, rfl, hs, he, hp⟩ := h
  refine ⟨w, env, s, rfl, hs, he, (post_bind hp).mono fun x H1 ⟨w1, d, s1, e1, x1, r1, q1, p1⟩ => ?_⟩
  refine ⟨w1, env, s1, e1, r1, he.mono x1, (post_bind p1).mono fun y H2 ⟨w2, e, s2, e2, x2, r2', q2, p2⟩ => ?_⟩
  exact ⟨w2, s2, d, e, e2, r2', q1.mono x2, q2, post_of p2⟩
theorem x_op2g {g : Sto → D → D → Po} {op : Operator} (ho : OpR X (binaryOp op) (r2g c g)) (ha : PE X a (rd c W fa)) (hb : PE X b (rd c W fb)) : PE X (.BinOp a op b pos) (rd c W (m2g g fa fb)) := (pe_op ho ha hb).imp fun _ _ _ h => rd_op2g h
theorem x_cmpg {g : Sto → D → D → Po} {op : CmpOp} (ho : OpR X (compareOp op) (r2g c g)) (ha : PE X a (rd c W fa)) (hb : PE X b (rd c W fb)) (hm : behindInMarks op b = false) : PE X (.Compare a [op] [b] pos) (rd c W (m2g g fa fb)) := (pe_cmpR ho ha hb hm).imp fun _ _ _ h => rd_op2g h
theorem y_cmpg {g : Sto → D → D → Po} {op : CmpOp} (ho : OpR X (compareOp op) (r2g c g)) (ha : PE X a (rd c W fa)) (hb : PE X b (rd c W fb)) (hm : behindInMarks op b = false) : PT X (.Compare a [op] [b] pos) (rdt c W (tCmpB (m2g g fa fb))) := (pt_cmpR ho ha hb hm).imp fun σ H Q ⟨w, env, s, hw, hs, he, hp⟩ => by
  subst hw
  refine rd_op2g ⟨w, env, s, rfl, hs, he, (post_bindt hp).mono fun x H1 ⟨w1, d, s1, e1, x1, r1, q1, p1⟩ => ?_⟩
  subst e1
  cases d <;> try exact p1.elim
  simp only [rv] at q1
  exact ⟨_, q1, p1 w1 (.refl w1) r1⟩
/-- two dicts that are equal -/
def apDeq (neg : Bool) (s : Sto) (d e : D) : Po := match look s d, look s e with
  | .dic ks ds, .dic js es => if plainK ks = true ∧ distD ks = true ∧ deqs ks js = true ∧ deqs ds es = true ∧ flatDs ds = true then ret s (.bl (!neg)) else none
  | _, _ => none
theorem flat_one {w : Wd} : ∀ {ds : List D} {vs us : List V}, flatDs ds = true → rvs c w ds vs → rvs c w ds us → vs = us ∧ ∀ v ∈ vs, flatB v = true
  | [], vs, us, _, h, k => by simp only [rvs] at h k; subst h k; exact ⟨rfl, fun _ h => by cases h⟩
  | d :: ds, vs, us, hf, h, k => by
    simp only [rvs] at h k
    obtain ⟨v, r, rfl, h1, h2⟩ := h
    obtain ⟨u, r', rfl, k1, k2⟩ := k
    cases d <;> simp only [flatDs, Bool.false_eq_true] at hf <;> simp only [rv] at h1 k1 <;> subst h1 k1 <;> (obtain ⟨e, g⟩ := flat_one hf h2 k2; subst e; exact ⟨rfl, fun v hv => by rcases List.mem_cons.mp hv with rfl | hv <;> first | rfl | exact g v hv⟩)
theorem apDeq_core {w : Wd} {s : Sto} {neg : Bool} {d e : D} {x y : V} {Q : VK} (hs : Rs c w s) (hd : rv c w d x) (he : rv c w e y) (hp : po c w (apDeq neg s d e) Q) : ∃ a b ks ls, x = .ref a ∧ y = .ref b ∧ w.H a = some (.dK ks) ∧ w.H b = some (.dK ls) ∧ ks.length = ls.length ∧ (∀ p ∈ ks, valV ls p.1 = some p.2 ∧ flatB p.2 = true) ∧ Q (.bl (!neg)) w.H := by
  unfold apDeq at hp
  split at hp
  · rename_i ks ds js es h1 h2
    obtain ⟨⟨g1, g2, g3, g4, g5⟩, p2⟩ := po_if hp
    have g3 := deqs_eq _ _ g3
    have g4 := deqs_eq _ _ g4
    subst g3 g4
    obtain ⟨a, vs, rfl, i1, i2⟩ := dict_view hs hd h1
    obtain ⟨b, us, rfl, j1, j2⟩ := dict_view hs he h2
    obtain ⟨kvs, i3, i4, i5⟩ := dic_k i1 g1
    obtain ⟨lvs, j3, j4, j5⟩ := dic_k j1 g1
    obtain ⟨e1, e2⟩ := flat_one g5 i2 j2
    have same : kvs = lvs := by
      have k1 : kvs.map (fun q => kd q.1) = lvs.map (fun q => kd q.1) := by rw [← i4, ← j4]
      have k2 : kvs.map (·.2) = lvs.map (·.2) := by rw [← i5, ← j5, e1]
      clear i3 i4 i5 j3 j4 j5
      induction kvs generalizing lvs with
      | nil => cases lvs with
        | nil => rfl
        | cons _ _ => cases k1
      | cons p kvs ih => cases lvs with
        | nil => cases k1
        | cons q lvs =>
          simp only [List.map_cons, List.cons.injEq] at k1 k2
          obtain ⟨p1, p2⟩ := p
          obtain ⟨q1, q2⟩ := q
          simp only at k1 k2
          rw [kd_inj k1.1, k2.1, ih lvs k1.2 k2.2]
    subst same
    rw [i4] at g2
    refine ⟨a, b, kvs, kvs, rfl, rfl, i3, j3, rfl, fun p hp => ⟨val_nodup (dist_kv g2) p hp, e2 _ (by rw [i5]; exact List.mem_map.mpr ⟨p, hp, rfl⟩)⟩, po_ret hs rv_bl p2⟩
  · exact hp.elim
theorem o_deq (hk : c.K = X.K) (hu : X.A.units < cLine) : OpR X (compareOp .Eq) (r2g c (apDeq false)) := fun pins s σ H x y v u Q I rx ry ⟨w, st, d, e, hw, hs, hd, he, hp⟩ => by
  subst hw
  exact op_eq_dictA hu pins s σ w.H x y v u Q I rx ry (apDeq_core hs hd he hp)
theorem o_dne (hk : c.K = X.K) (hu : X.A.units < cLine) : OpR X (compareOp .NotEq) (r2g c (apDeq true)) := fun pins s σ H x y v u Q I rx ry ⟨w, st, d, e, hw, hs, hd, he, hp⟩ => by
  subst hw
  exact op_ne_dictA hu pins s σ w.H x y v u Q I rx ry (apDeq_core hs hd he hp)
/-! lists repeated, turned round -/
def apRp (m : Bool) (s : Sto) (d e : D) : Po := match look s d, e with
  | .lst ds, .int k => if 0 ≤ k ∧ k < 2 ^ 20 ∧ ds.length * k.toNat ≤ sizeLine then newL m s (List.replicate k.toNat ds).flatten else none
  | _, _ => none
theorem rvs_rep {w : Wd} {ds : List D} {vs : List V} (h : rvs c w ds vs) : ∀ k : Nat, rvs c w (List.replicate k ds).flatten (List.replicate k vs).flatten
  | 0 => .nil
  | k + 1 => by
    rw [List.replicate_succ, List.replicate_succ, List.flatten_cons, List.flatten_cons]
    exact h.append (rvs_rep h k)
theorem o_rp {m : Bool} : OpR X (binaryOp .Mult) (r2g c (apRp m)) := fun pins s σ H x y v u Q I rx ry ⟨w, st, d, e, hw, hs, hd, he, hp⟩ => by
  subst hw
  unfold apRp at hp
  split at hp
  · rename_i ds k hl
    obtain ⟨⟨g1, g2, g3⟩, p2⟩ := po_if hp
    obtain ⟨a, vs, rfl, h1, h2⟩ := lst_view hs hd hl
    simp only [rv] at he
    subst he
    exact op_rep pins s σ w.H _ _ v u Q I rx ry ⟨a, k, vs, rfl, rfl, h1, by omega, by omega, by rw [← h2.length]; exact g3, fun p hp => po_newL hs (rvs_rep h2 _) hp p2⟩
  · exact hp.elim
def apRv (m : Bool) (s : Sto) (d : D) : Po := match look s d with
  | .lst ds => newL m s ds.reverse
  | _ => none
def mRv (m : Bool) (fa : Fe) : Fe := fun env s => (fa env s).bind fun d s => ofPo (apRv m s d)
theorem x_rv {m : Bool} (hk : c.K = X.K) {n : Nat} {p1 p2 p3 : Pos} (ha : PE X a (rd c W fa)) : PE X (.Subscript a (.Slice none none (some (.UnaryOp .USub (.Constant (.int 1) n p1) p2)) p3) pos) (rd c W (mRv m fa)) := (pe_revL ha).imp fun σ H Q ⟨w, env, s, hw, hs, he, hp⟩ => by
  subst hw
  refine ⟨w, env, s, rfl, hs, he, (post_bind hp).mono fun x H1 ⟨w1, d, s1, e1, x1, r1, q1, p1⟩ => ?_⟩
  subst e1
  have p2 := post_of p1
  unfold apRv at p2
  split at p2
  · obtain ⟨b, vs, rfl, h1, h2⟩ := look_lst r1 q1 (by assumption)
    exact ⟨b, vs, rfl, hk ▸ h1, fun p hp => po_newL r1 h2.reverse hp p2⟩
  · exact p2.elim
end
end Ir
end
section
set_option Elab.async false
set_option linter.all false
set_option maxRecDepth 100000
/-! values of defaults, told of the written part -/
namespace Ir
open PySem PySem.Spec PyProof.Rows L2
/-- what stands as a default, as data -/
def kdB (K : PySem.W.Frag) : D → Value → Bool
  | .non, .none => true
  | .bl b, .bool c => b == c
  | .tup [], .ref a => match K.lookup a with
    | some ⟨.type c, _, .seq its _, _⟩ => decide (c = "tuple") && decide (its.size = 0)
    | _ => false
  | _, _ => false
theorem kdB_ok {K : PySem.W.Frag} {d : D} {u : Value} (h : kdB K d u = true) : ∃ v, RelV v u ∧ ∀ (c : Rc) (w : Wd), c.K = K → rv c w d v := by
  unfold kdB at h
  split at h
  · exact ⟨.non, rfl, fun c w _ => by simp only [rv]⟩
  · rename_i b c
    refine ⟨.bl b, ?_, fun c w _ => by simp only [rv]⟩
    rw [beq_iff_eq] at h
    rw [h]
    rfl
  · rename_i a
    split at h
    · rename_i c od its n osl q
      simp only [Bool.and_eq_true, decide_eq_true_eq] at h
      obtain ⟨rfl, h0⟩ := h
      refine ⟨.ref a, rfl, fun c w e => ?_⟩
      simp only [rv]
      have hz : its = #[] := Array.eq_empty_of_size_eq_zero h0
      subst hz
      exact ⟨a, [], rfl, .inr ⟨_, #[], n, e ▸ q, rfl, rfl, by simp, .nil⟩, .nil⟩
    · cases h
  · cases h
/-- t looks the names up in the dict at D, one behind another, and goes on as e -/
def Chn {α : Type} (D : Addr) : List (Str × Value) → Sem α → Sem α → Prop
  | [], t, e => t = e
  | q :: l, t, e => ∃ (β γ : Type) (k1 : Option Value → Sem β) (k2 : β → Sem γ) (k3 : γ → Sem α) (a : β), t = ((nsGet D q.1 >>= k1) >>= k2) >>= k3 ∧ k1 (some q.2) = pure a ∧ Chn D l (k2 a >>= k3) e
theorem Chn.wp {α : Type} {K : PySem.W.Frag} {M : Model} {A : Around} {D : Addr} {Q : α → Shared → Prop} {E : Value → Shared → Prop} {s : Shared} (X : K.In s.heap) : ∀ {l : List (Str × Value)} {t e : Sem α}, (∀ q ∈ l, PySem.W.nsIn K D q.1 = some (some q.2)) → Chn D l t e → wpAny M A e Q E s → wpAny M A t Q E s
  | [], t, e, _, h, k => by
    have h : t = e := h
    rw [h]
    exact k
  | q :: l, t, e, hl, h, k => by
    obtain ⟨β, γ, k1, k2, k3, a, e1, e2, e3⟩ := h
    have z := Chn.wp X (fun p hp => hl p (List.mem_cons_of_mem _ hp)) e3 k
    rw [e1, bind_assoc, bind_assoc]
    refine wpAny_bind ((PySem.W.looks_nsIn X (hl q (List.mem_cons_self ..))).here ?_)
    rw [← bind_assoc, e2, pure_bind]
    exact z
end Ir
end
section
set_option Elab.async false
set_option linter.all false
set_option maxRecDepth 100000
/-! defs called with keywords -/
namespace Ir
open PySem PySem.Spec PyProof.Rows L2
abbrev SpK : Type := List V → List V → Hp → VK → XK → Prop
/-- a promise by positional values and the values of these keywords -/
def FnK (P : Program) (w : World) (K : PySem.W.Frag) (mg : Str → Option Value) (base : Heap) (CX : CXT) (k : Nat) (f : Addr) (ks : List Str) (sp : SpK) : Prop :=
  ∀ (A : Around) (outer : List Env) (s : Shared) (H : Hp) (us ws : List Value) (vs zs : List V) (Q : VK) (E : XK), Ir.Room k A → Env0 P w K mg base A outer s H → Vals vs us → Vals zs ws → sp vs zs H Q E → codeAny (model P w) A (.call (.ref f) ⟨us, ks.zip ws⟩) (CR CX outer P w H s Q E) s
section
variable {P : Program} {w : World} {K : PySem.W.Frag} {mg : Str → Option Value} {base : Heap} {CX : CXT} {k : Nat} {f D : Addr} {name qual : Str} {params : Arguments} {body : List Stmt} {scope : Scope} {dV kV doc pm cdv ct oc : Value} {an od : Option Addr} {osl : Array (Option Value)} {N ps : List Str} {sp : Sp}
/-- a def without a star: n positional values, keywords ks, the lacking ones' values ms -/
theorem fn_kw {n : Nat} {ks : List Str} {ms : List (Str × Value)} {g : List Value → List Value → List Value} {gV : List V → List V → List V} (lk : K.lookup f = some ⟨oc, od, .func (PySem.W.fnOf name qual params body scope dV kV doc pm an cdv ct), osl⟩) (hcd : PySem.W.codeIn K cdv qual = true) (S : FnScope N ps scope)
    (hms : ∀ q ∈ ms, PySem.W.nsIn K D q.1 = some (some q.2)) (hb : ∀ us ws : List Value, us.length = n → ws.length = ks.length → Chn D ms (bindArgs (PySem.W.fnOf name qual params body scope dV kV doc pm an cdv ct) ⟨us, ks.zip ws⟩) (pure (ps.zip (g us ws))))
    (hrel : ∀ {vs zs : List V} {us ws : List Value}, Vals vs us → Vals zs ws → vs.length = n → zs.length = ks.length → Vals (gV vs zs) (g us ws) ∧ (gV vs zs).length = ps.length) (B : BodyOk CX P w K mg base k f qual body scope cdv N sp) :
    FnK P w K mg base CX (k + 1) f ks (fun vs zs H Q E => vs.length = n ∧ zs.length = ks.length ∧ sp (gV vs zs) H Q E) := by
  intro A outer s H us ws vs zs Q E hr he hv hz ⟨h1, h2, hq⟩
  obtain ⟨hr2, hl⟩ := hrel hv hz h1 h2
  have KX : K.In s.heap := he.mod.kin.keeps fun b o q => (he.bs b o q).1
  refine StX.run_bnd lk hcd S hr.r he (G := fun xs H2 => xs = gV vs zs ∧ H2 = H) (fun A' Ex Q' h => ?_) fun s2 H2 xs g hr3 => ?_
  · exact Chn.wp KX hms (hb us ws (hv.length.symm.trans h1) (hz.length.symm.trans h2)) (wpAny_pure (h s H (gV vs zs) (g us ws) he .refl rfl (fun _ _ z => z) hr2 hl ⟨rfl, rfl⟩))
  · obtain ⟨rfl, rfl⟩ := g
    exact B A outer s2 H2 _ Q E (.toDeeper hr.g _ hr3) hq
/-- a def with a star: n positional values, the rest into a tuple -/
theorem fn_kwr {n : Nat} {pv : Str} {ks : List Str} {ms : List (Str × Value)} {g : List Value → List Value → List Value} {gV : List V → List V → List V} (lk : K.lookup f = some ⟨oc, od, .func (PySem.W.fnOf name qual params body scope dV kV doc pm an cdv ct), osl⟩) (hcd : PySem.W.codeIn K cdv qual = true) (S : FnScope N (ps ++ [pv]) scope) (hCX : StX.CXUp CX)
    (hms : ∀ q ∈ ms, PySem.W.nsIn K D q.1 = some (some q.2)) (hb : ∀ us more ws : List Value, us.length = n → ws.length = ks.length → Chn D ms (bindArgs (PySem.W.fnOf name qual params body scope dV kV doc pm an cdv ct) ⟨us ++ more, ks.zip ws⟩) (newTuple more >>= fun t => pure (ps.zip (g us ws) ++ [(pv, t)])))
    (hrel : ∀ {vs zs : List V} {us ws : List Value}, Vals vs us → Vals zs ws → vs.length = n → zs.length = ks.length → Vals (gV vs zs) (g us ws) ∧ (gV vs zs).length = ps.length) (B : BodyOk CX P w K mg base k f qual body scope cdv N sp) :
    FnK P w K mg base CX (k + 1) f ks (fun vs zs H Q E => ∃ as bs, vs = as ++ bs ∧ as.length = n ∧ bs.length ≤ sizeLine ∧ zs.length = ks.length ∧ ∀ p, H p = Option.none → sp (gV as zs ++ [V.ref p]) (upd H p (.tup bs)) Q E) := by
  intro A outer s H us ws vs zs Q E hr he hv hz ⟨as, bs, hvs, ha, hbs, h2, hq⟩
  subst hvs
  obtain ⟨xs, ys, rfl, r1, r2⟩ := vals_cut hv
  obtain ⟨rg, hl⟩ := hrel r1 hz ha h2
  have free : H s.heap.objs.size = Option.none := he.hok.fresh (Nat.le_refl _)
  have KX : K.In s.heap := he.mod.kin.keeps fun b o q => (he.bs b o q).1
  refine StX.run_bnd lk hcd S hr.r he (G := fun qs H2 => ∃ p, H p = Option.none ∧ qs = gV as zs ++ [V.ref p] ∧ H2 = upd H p (.tup bs)) (fun A' Ex Q' h => ?_) fun s2 H2 qs g hr3 => ?_
  · have hx : xs.length = n := by rw [← r1.length]; exact ha
    have hy : ys.length ≤ sizeLine := by rw [← r2.length]; exact hbs
    refine Chn.wp KX hms (hb xs ys ws hx (hz.length.symm.trans h2)) ?_
    have ok : ObjOk P w (upd H s.heap.objs.size (.tup bs)) (s.heap.push ({ cls := .type "tuple", data := .seq ys.toArray } : Obj)) s.heap.objs.size (.tup bs) := ⟨hbs, ys, r2, ⟨_, Heap.get?_push_size _ rfl, rfl, _, rfl⟩⟩
    have grown := StX.un_laid (fs := frs outer) (s := s) (o := ({ cls := .type "tuple", data := .seq ys.toArray } : Obj)) (u := .tup bs) free
    refine wpAny_bind (wpAny_newTuple (wpAny_pure ?_) hy)
    have q := h _ _ (gV as zs ++ [V.ref s.heap.objs.size]) (g xs ws ++ [Value.ref s.heap.objs.size]) (StX.env0_laid he ok) grown rfl (fun e s' => hCX outer s H { s with heap := s.heap.push ({ cls := .type "tuple", data := .seq ys.toArray } : Obj) } _ E e s' grown (fun b o z2 => Heap.get?_push_of_some _ z2) rfl) (rg.append (.cons rfl .nil)) (by simp [hl]) ⟨_, free, rfl, rfl⟩
    rwa [List.zip_append (hl.symm.trans rg.length)] at q
  · obtain ⟨p, hp, rfl, rfl⟩ := g
    exact B A outer s2 _ _ Q E (.toDeeper hr.g _ hr3) (hq p hp)
end
/-! arguments with stars -/
def sStar (f : Fe) (fs : Fs) : Fs := fun env s => (f env s).bind fun d s => match seqOf s d with
  | some xs => (fs env s).bind fun ds s => .ok (xs ++ ds) s
  | none => .bad
section
variable {X : Cx} {c : Rc} {W : WX} {e : Expr} {es : List Expr} {fa : Fe} {fs : Fs} {p : Pos}
theorem x_star (hk : c.K = X.K) (h1 : PE X e (rd c W fa)) (h2 : PA X es (rda c W fs)) (hs : starEach (.Starred e p :: es) X.env = (true, eval e X.env) :: starEach es X.env) : PA X (.Starred e p :: es) (rda c W (sStar fa fs)) :=
  (StX.pa_star h1 h2 hs).imp fun σ H Q h => by
    obtain ⟨w, env, s, hw, hs, he, hp⟩ := h
    refine ⟨w, env, s, hw, hs, he, ?_⟩
    unfold sStar at hp
    cases hf : fa env s with
    | bad => rw [hf] at hp; exact hp.elim
    | ex k ds s' => rw [hf] at hp; exact hp
    | ok d s' =>
      rw [hf] at hp
      replace hp : posts c W σ w (match seqOf s' d with
        | some xs => (fs env s').bind fun ds s => .ok (xs ++ ds) s
        | none => .bad) Q := hp
      refine fun w2 v e2 r2 q2 => ?_
      cases hq : seqOf s' d with
      | none => rw [hq] at hp; exact hp.elim
      | some xs =>
        rw [hq] at hp
        obtain ⟨a, vs, rfl, k1, k2⟩ := seq_view r2 q2 hq
        refine ⟨a, vs, rfl, hk ▸ k1.symm, w2, env, s', rfl, r2, he.mono e2, ?_⟩
        dsimp only at hp
        cases hg : fs env s' with
        | bad => rw [hg] at hp; exact hp.elim
        | ex k ds s'' => rw [hg] at hp; exact fun w3 dx e3 => hp w3 dx (e2.trans e3)
        | ok ds s'' =>
          rw [hg] at hp
          replace hp : posts c W σ w (.ok (xs ++ ds) s'') Q := hp
          exact fun w3 us e3 r3 q3 => hp w3 (vs ++ us) (e2.trans e3) r3 ((k2.mono e3).append q3)
end
/-! keywords, from the left -/
section
variable {X : Cx} {c : Rc} {W : WX} {e : Expr} {kws : List Keyword} {fa : Fe} {fs : Fs} {nm : Option Str} {kpos : Pos}
theorem k_nil : PK X [] (rda c W sNil) := ⟨fun pos pins s σ H Q I h => pk_nil.run pos pins s σ H Q I (by
  obtain ⟨w, env, st, rfl, hs, he, hp⟩ := h
  exact hp w [] (.refl w) hs .nil)⟩
theorem k_cons (h1 : PE X e (rd c W fa)) (h2 : PK X kws (rda c W fs)) : PK X (⟨nm, e, kpos⟩ :: kws) (rda c W (sCons fa fs)) := ⟨fun pos pins s σ H Q I h => (pk_cons h1 h2).run pos pins s σ H Q I (rda_cons h)⟩
end
end Ir
end
section
set_option Elab.async false
set_option linter.all false
set_option maxRecDepth 100000
/-! a lone starred value together with keywords -/
namespace Ir
open PySem PySem.Spec PyProof.Rows L2 PySem.W
section
variable {M : Model} {A : Around} {E : Value → Shared → Prop} {st : Shared}
theorem args_lone {fv : Value} {x : Sem Value} {pos : Pos} {kw : List (Option Str × Sem Value)} {R : Args → Shared → Prop} (hall : kw.all (·.1.isSome) = true)
    (h : wpAny M A x (fun v s1 => wpAny M A (evalAll (kw.map (·.2))) (fun ws s2 => StarOf M A E v (fun vs s3 => R ⟨vs, (kw.filterMap (·.1)).zip ws⟩ s3) s2) E s1) E st) :
    wpAny M A (evalArgs fv true [(true, (do let v ← x; standAt pos; pure v))] kw) R E st := by
  unfold evalArgs
  refine wpAny_bind (wpAny_bind (wpAny_mono h (fun v s1 h1 => wpAny_bind (wpAny_standAt (wpAny_pure ?_))) fun _ _ z => z))
  refine wpAny_bind (wpAny_pure ?_)
  refine wpAny_holding ?_
  dsimp only
  rw [if_pos hall]
  refine wpAny_bind (wpAny_mono h1 (fun ws s2 h2 => ?_) fun _ _ z => z)
  unfold StarOf at h2
  refine wpAny_bind (wpAny_bind (wpAny_mono h2 (fun b s3 h3 => ?_) fun _ _ z => z))
  obtain ⟨rfl, h3⟩ := h3
  try simp only [Bool.false_eq_true, if_false]
  refine wpAny_bind (wpAny_pure ?_)
  exact wpAny_holding (vs := ((kw.filterMap (·.1)).zip ws).map (·.2)) (wpAny_mono h3 (fun vs s4 h4 => wpAny_pure h4) fun _ _ z => z)
theorem call_stars {K : Frag} {fv : Value} {first : List Value} {pos : Pos} {R : Value → Shared → Prop} {args : List (Bool × Sem Value)} {kw : List (Option Str × Sem Value)} (hs : args.any (·.1) = true) (hk : keepIn K fv = true)
    (h : wpAny M A (evalArgs fv true args kw) (fun a s1 => K.In s1.heap ∧ wpAny M A (call fv (first ++ a.pos) a.kw) R E s1) E st) : wpAny M A (callWith pos fv first args kw) R E st := by
  unfold callWith
  refine wpAny_bind (wpAny_holding (wpAny_mono h (fun a s1 h1 => wpAny_bind (wpAny_standAt ?_)) fun _ _ z => z))
  obtain ⟨kp, hk2, Lk⟩ := keeps_K hk _ h1.1
  simp only [hs, Bool.true_or]
  refine wpAny_bind (Lk.here ?_)
  have tail : ∀ {t : Sem Value}, wpAny M A t R E s1 → wpAny M A (t >>= fun r => holding [r] point >>= fun _ => pure r) R E s1 :=
    fun ht => wpAny_bind (wpAny_mono ht (fun r s2 hr => wpAny_bind (wpAny_holding (wpAny_point (wpAny_pure hr)))) fun _ _ z => z)
  have mk (m : Value) : wpAny M A (callMarked m fv (first ++ a.pos) a.kw) R E s1 := by unfold callMarked; exact Calls.wpAny_keep h1.2
  rcases hk2 with rfl | rfl | rfl <;> dsimp only <;> first | exact tail (mk _) | exact tail (wpAny_operating h1.2)
end
end Ir
end
section
set_option Elab.async false
set_option linter.all false
set_option maxRecDepth 100000
/-! calls with stars and keywords: what they mean -/
namespace Ir
open PySem PySem.Spec PyProof.Rows L2
/-- values from the left, those with a star spread -/
def seqSt : List Bool → List Fe → Fs
  | true :: st, f :: fs => sStar f (seqSt st fs)
  | false :: st, f :: fs => sCons f (seqSt st fs)
  | _, _ => sNil
/-- positional values (a lone starred one is spread last), keywords' values, then F of both -/
def mArg (st : List Bool) (fp fk : List Fe) (F : List D → List D → Sto → R D) : Fe := fun env s => match st, fp with
  | [true], [f] => (f env s).bind fun d s => (seqFs fk env s).bind fun zs s => match seqOf s d with
    | some xs => F xs zs s
    | none => .bad
  | _, _ => (seqSt st fp env s).bind fun xs s => (seqFs fk env s).bind fun zs s => F xs zs s
section
variable {X : Cx} {c : Rc} {W : WX}
inductive Spr (X : Cx) (c : Rc) (W : WX) : List Bool → List Fe → List Expr → Prop where
  | nil : Spr X c W [] [] []
  | one {st : List Bool} {f : Fe} {fs : List Fe} {e : Expr} {es : List Expr} (h : PE X e (rd c W f)) (hs : isStar e = false) (t : Spr X c W st fs es) : Spr X c W (false :: st) (f :: fs) (e :: es)
  | str {st : List Bool} {f : Fe} {fs : List Fe} {e : Expr} {p : Pos} {es : List Expr} (h : PE X e (rd c W f)) (t : Spr X c W st fs es) : Spr X c W (true :: st) (f :: fs) (.Starred e p :: es)
theorem Spr.pa (hk : c.K = X.K) {st : List Bool} {fs : List Fe} {es : List Expr} (h : Spr X c W st fs es) : PA X es (rda c W (seqSt st fs)) := by
  induction h with
  | nil => exact x_nil
  | one h hs t ih => exact x_cons h ih (star_one hs)
  | str h t ih => exact x_star hk h ih rfl
/-- keywords by their names, in order -/
inductive Kws (X : Cx) (c : Rc) (W : WX) : List Str → List Fe → List Keyword → Prop where
  | nil : Kws X c W [] [] []
  | cons {x : Str} {ks : List Str} {f : Fe} {fs : List Fe} {e : Expr} {p : Pos} {kws : List Keyword} (h : PE X e (rd c W f)) (t : Kws X c W ks fs kws) : Kws X c W (x :: ks) (f :: fs) (⟨some x, e, p⟩ :: kws)
theorem Kws.pk {ks : List Str} {fs : List Fe} {kws : List Keyword} (h : Kws X c W ks fs kws) : PK X kws (rda c W (seqFs fs)) := by
  induction h with
  | nil => exact k_nil
  | cons h t ih => exact k_cons h ih
theorem Kws.named {ks : List Str} {fs : List Fe} {kws : List Keyword} (h : Kws X c W ks fs kws) (pos : Pos) (env : Env) : (backToKw pos (keywordEach kws env)).all (·.1.isSome) = true ∧ (backToKw pos (keywordEach kws env)).filterMap (·.1) = ks ∧ ks.length = fs.length := by
  induction h with
  | nil => exact ⟨rfl, rfl, rfl⟩
  | cons h t ih =>
    obtain ⟨i1, i2, i3⟩ := ih
    refine ⟨?_, ?_, by simp only [List.length_cons, i3]⟩
    · simp only [keywordEach, backToKw, List.map_cons, List.all_cons, Option.isSome_some, Bool.true_and]
      exact i1
    · simp only [keywordEach, backToKw, List.map_cons, List.filterMap_cons]
      exact congrArg _ i2
end
section
variable {M : Model} {A : Around} {E : Value → Shared → Prop} {s : Shared}
theorem evalArgs_kws {fv : Value} {args : List (Bool × Sem Value)} {kw : List (Option Str × Sem Value)} {R : Args → Shared → Prop} (hall : kw.all (·.1.isSome) = true) (hl : ∀ x, args ≠ [(true, x)])
    (h : wpAny M A (spliced args) (fun vs s1 => wpAny M A (evalAll (kw.map (·.2))) (fun ws s2 => R ⟨vs, (kw.filterMap (·.1)).zip ws⟩ s2) E s1) E s) : wpAny M A (evalArgs fv true args kw) R E s := by
  cases args with
  | nil =>
    unfold evalArgs
    refine wpAny_bind (wpAny_mono h (fun vs s1 h1 => wpAny_bind (wpAny_pure (wpAny_holding ?_))) fun _ _ z => z); dsimp only; rw [if_pos hall]
    exact wpAny_bind (wpAny_mono h1 (fun ws s2 h2 => wpAny_bind (wpAny_pure (wpAny_pure h2))) fun _ _ z => z)
  | cons a r =>
    obtain ⟨b, x⟩ := a
    cases b with
    | false =>
      unfold evalArgs
      refine wpAny_bind (wpAny_mono h (fun vs s1 h1 => wpAny_bind (wpAny_pure (wpAny_holding ?_))) fun _ _ z => z); dsimp only; rw [if_pos hall]
      exact wpAny_bind (wpAny_mono h1 (fun ws s2 h2 => wpAny_bind (wpAny_pure (wpAny_pure h2))) fun _ _ z => z)
    | true =>
      cases r with
      | nil => exact absurd rfl (hl x)
      | cons b r =>
        unfold evalArgs
        refine wpAny_bind (wpAny_mono h (fun vs s1 h1 => wpAny_bind (wpAny_pure (wpAny_holding ?_))) fun _ _ z => z); dsimp only; rw [if_pos hall]
        exact wpAny_bind (wpAny_mono h1 (fun ws s2 h2 => wpAny_bind (wpAny_pure (wpAny_pure h2))) fun _ _ z => z)
theorem callWith_any {P : Heap → Prop} {fv : Value} {first : List Value} {pos : Pos} {R : Value → Shared → Prop} {args : List (Bool × Sem Value)} {kw : List (Option Str × Sem Value)} (hkw : kw.all (·.1.isSome) = true)
    (hk : ∀ h, P h → ∃ k, (k = Keeper.frame ∨ k = Keeper.machine ∨ k = Keeper.boundFrame) ∧ PySem.W.Looks M h (keeperOf fv) k)
    (h : wpAny M A (evalArgs fv true args kw) (fun a s1 => P s1.heap ∧ wpAny M A (call fv (first ++ a.pos) a.kw) R E s1) E s) : wpAny M A (callWith pos fv first args kw) R E s := by
  have hn : kw.any (·.1.isNone) = false := by
    rw [List.any_eq_false]
    intro x hx
    have := List.all_eq_true.mp hkw x hx
    cases q : x.1 with
    | none => rw [q] at this; cases this
    | some _ => simp
  cases hs : args.any (·.1) with
  | false => exact PySem.W.callWith_of (by rw [hs, hn]; rfl) hk h
  | true =>
    unfold callWith
    refine wpAny_bind (wpAny_holding (wpAny_mono h (fun a s1 h1 => wpAny_bind (wpAny_standAt ?_)) fun _ _ z => z))
    obtain ⟨kp, hk2, Lk⟩ := hk _ h1.1
    simp only [hs, Bool.true_or]
    refine wpAny_bind (Lk.here ?_)
    have tail : ∀ {t : Sem Value}, wpAny M A t R E s1 → wpAny M A (t >>= fun r => holding [r] point >>= fun _ => pure r) R E s1 :=
      fun ht => wpAny_bind (wpAny_mono ht (fun r s2 hr => wpAny_bind (wpAny_holding (wpAny_point (wpAny_pure hr)))) fun _ _ z => z)
    have mk (m : Value) : wpAny M A (callMarked m fv (first ++ a.pos) a.kw) R E s1 := by unfold callMarked; exact Calls.wpAny_keep h1.2
    rcases hk2 with rfl | rfl | rfl <;> dsimp only <;> first | exact tail (mk _) | exact tail (wpAny_operating h1.2)
end
section
variable {X : Cx} {c : Rc} {W : WX} {F : List D → List D → Sto → R D} {st : List Bool} {fp fk : List Fe} {ks : List Str} {es : List Expr} {kws : List Keyword} {pins : List (Addr × Obj)} {σ : L2.St} {s : Shared} {w : Wd} {sto : Sto} {env : Ev} {Q : VK} {R : Value → Shared → Prop} {pos : Pos} {fv : Value} {first : List Value} {P : Heap → Prop}
/-- the arguments, then the callee -/
theorem cw_G (hkk : c.K = X.K) (hs : Spr X c W st fp es) (hkw : Kws X c W ks fk kws) (hk : ∀ h, P h → ∃ k, (k = Keeper.frame ∨ k = Keeper.machine ∨ k = Keeper.boundFrame) ∧ PySem.W.Looks (model X.prog X.w) h (keeperOf fv) k) (I : Inv X pins σ w.H s) (h1 : Rs c w sto) (h2 : re c w env σ) (hp : post c W σ w (mArg st fp fk F env sto) Q)
    (hq : ∀ (us ws : List Value) (vs zs : List V) (s1 : Shared) (w1 : Wd) (ds es : List D) (sto1 : Sto), Inv X pins σ w1.H s1 → Ext w w1 → Rs c w1 sto1 → Vals vs us → Vals zs ws → rvs c w1 ds vs → rvs c w1 es zs → post c W σ w1 (F ds es sto1) Q → P s1.heap ∧ wpAny (model X.prog X.w) X.A (call fv (first ++ us) (ks.zip ws)) R X.xe s1) :
    wpAny (model X.prog X.w) X.A (callWith pos fv first (backTo pos (starEach es X.env)) (backToKw pos (keywordEach kws X.env))) R X.xe s := by
  obtain ⟨n1, n2, n3⟩ := hkw.named pos X.env
  refine callWith_any n1 hk ?_
  have gen : (∀ x, backTo pos (starEach es X.env) ≠ [(true, x)]) → post c W σ w ((seqSt st fp env sto).bind fun xs s => (seqFs fk env s).bind fun zs s => F xs zs s) Q → wpAny (model X.prog X.w) X.A (evalArgs fv true (backTo pos (starEach es X.env)) (backToKw pos (keywordEach kws X.env))) (fun a s1 => P s1.heap ∧ wpAny (model X.prog X.w) X.A (call fv (first ++ a.pos) a.kw) R X.xe s1) X.xe s := fun hl hp => by
    refine evalArgs_kws n1 hl (thn ((hs.pa hkk).run pos pins s σ _ _ I ⟨w, env, sto, rfl, h1, h2, posts_bind hp⟩) fun us s1 ⟨vs, H1, I1, r, w1, ds, st1, e1, x1, r1, q1, p1⟩ => ?_)
    subst e1
    refine thn (hkw.pk.run pos pins s1 σ _ _ I1 ⟨w1, env, st1, rfl, r1, h2.mono x1, posts_bind p1⟩) fun ws s2 ⟨zs, H2, I2, rz, w2, es2, st2, e2, x2, r2, q2, p2⟩ => ?_
    subst e2
    rw [n2]
    exact hq us ws vs zs s2 w2 ds es2 st2 I2 (x1.trans x2) r2 r rz (rvs.mono x2 _ _ q1) q2 p2
  cases hs with
  | nil => exact gen (fun x e => by cases e) hp
  | one h hs t =>
    refine gen (fun x e => ?_) ?_
    · rw [star_one hs] at e
      simp [backTo] at e
    · exact hp
  | str h t =>
    rename_i st' f fs e p es'
    cases t with
    | nil =>
      refine args_lone n1 (thn (h.run pins s σ _ _ I ⟨w, env, sto, rfl, h1, h2, post_bind hp⟩) fun u s1 ⟨v, H1, I1, r, w1, d, st1, e1, x1, r1, q1, p1⟩ => ?_)
      subst e1
      refine thn (hkw.pk.run pos pins s1 σ _ _ I1 ⟨w1, env, st1, rfl, r1, h2.mono x1, posts_bind p1⟩) fun ws s2 ⟨zs, H2, I2, rz, w2, es2, st2, e2, x2, r2, q2, p2⟩ => ?_
      subst e2
      rw [n2]
      cases hq' : seqOf st2 d with
      | none => rw [hq'] at p2; exact p2.elim
      | some xs =>
        rw [hq'] at p2
        obtain ⟨a, vs, rfl, k1, k2⟩ := seq_view r2 (rv.mono x2 _ _ q1) hq'
        obtain rfl : u = Value.ref a := r
        exact StX.star_any I2 (hkk ▸ k1.symm) fun us s3 I3 r3 => hq us ws vs zs s3 w2 xs es2 st2 I3 (x1.trans x2) r2 r3 rz k2 q2 p2
    | one h2' hs2 t2 =>
      refine gen (fun x e => ?_) hp
      have := congrArg List.length e
      simp [backTo, starEach] at this
      try rw [star_one hs2] at this
      simp at this
    | str h2' t2 =>
      refine gen (fun x e => ?_) hp
      have := congrArg List.length e
      simp [backTo, starEach] at this
end
end Ir
/-! the callee runs -/
namespace Ir
open PySem PySem.Spec PyProof.Rows L2
def spK (c : Rc) (F : List D → List D → Sto → R D) : SpK := fun vs zs H Q E => ∃ (w : Wd) (ds es : List D) (s : Sto), w.H = H ∧ Rs c w s ∧ rvs c w ds vs ∧ rvs c w es zs ∧ post c (fun cls d _ H => E cls d H) [] w (F ds es s) Q
section
variable {X : Cx} {c : Rc} {W : WX} {k kc : Nat} {f C p g : Addr} {mc : Value} {F : List D → List D → Sto → R D} {sp : SpK} {st : List Bool} {ks : List Str} {pins : List (Addr × Obj)} {σ : L2.St} {H : Hp} {s : Shared} {Q : VK} {us ws : List Value} {vs zs : List V} {es : List Expr} {kws : List Keyword} {pos apos : Pos} {fa : Fe} {fp fk : List Fe} {m : Str} {o : Expr}
theorem spK_of {w : Wd} {ds es : List D} {s : Sto} {vs zs : List V} {σ : L2.St} {Q : VK} (hs : Rs c w s) (r : rvs c w ds vs) (r2 : rvs c w es zs) (h : post c W σ w (F ds es s) Q) : spK c F vs zs w.H Q (fun cls d H => W cls d σ H) := ⟨w, ds, es, s, rfl, hs, r, r2, h.wish fun _ _ _ h => h⟩
theorem run_K (F : FnK X.prog X.w X.K X.mg X.base (L2.CX X.prog X.w) k f ks sp) (hr : Room k X.A) (tk : Takes X W) (I : Inv X pins σ H s) (r : Vals vs us) (rz : Vals zs ws) (h : sp vs zs H Q (fun cls d H => W cls d σ H)) :
    codeAny (model X.prog X.w) X.A (.call (.ref f) ⟨us, ks.zip ws⟩) (fun r s' => match r with | .ok (.ret v) => EP X pins σ Q v s' | .ok _ => False | .error e => X.xe e s') s := by
  refine codeAny_mono (F X.A X.stack s H us ws vs zs Q _ hr I.env0 r rz h) fun r s' hq => ?_
  cases r with
  | error e => exact passAt tk σ pins H s e s' I hq
  | ok fl =>
    cases fl with
    | ret u => exact I.after hq
    | next => exact False.elim hq
    | brk => exact False.elim hq
    | cont => exact False.elim hq
theorem run_cmK {q : Addr} (F : FnK X.prog X.w X.K X.mg X.base (L2.CX X.prog X.w) k g ks sp) (hr : Room k X.A) (tk : Takes X W) (I : Inv X ((q, PySem.W.methodObj (.ref g) (.ref C)) :: pins) σ H s)
    (r : Vals vs us) (rz : Vals zs ws) (h : sp (.ref C :: vs) zs H Q (fun cls d H => W cls d σ H)) : wpAny (model X.prog X.w) X.A (call (.ref q) us (ks.zip ws)) (EP X pins σ Q) X.xe s := by
  have z : wpAny (model X.prog X.w) X.A (call (.ref q) us (ks.zip ws)) (EP X ((q, PySem.W.methodObj (.ref g) (.ref C)) :: pins) σ Q) X.xe s :=
    wpAny_call (PySem.W.method_call (ClX.pin_at I) (run_K (us := .ref C :: us) (vs := .ref C :: vs) F hr tk I (.cons rfl r) rz h))
  exact thn z fun _ _ y => ClX.unpinE y
theorem run_mkK (M : Mk X.K C f) (F : FnK X.prog X.w X.K X.mg X.base (L2.CX X.prog X.w) k f ks sp) (hr : Room (k + 1) X.A) (tk : Takes X W) (I : Inv X pins σ H s) (r : Vals vs us) (rz : Vals zs ws)
    (h : ∀ x dx, H x = Option.none → H dx = Option.none → dx ≠ x → sp (V.ref x :: vs) zs (upd (upd H dx (.own x)) x (.ins C dx [])) (fun v H2 => v = .non ∧ Q (.ref x) H2) (fun cls d H => W cls d σ H)) :
    wpAny (model X.prog X.w) X.A (call (.ref C) us (ks.zip ws)) (EP X pins σ Q) X.xe s := by
  have hq := h (s.heap.objs.size + 1) s.heap.objs.size (I.hok.fresh (Nat.le_succ _)) (I.hok.fresh (Nat.le_refl _)) (Nat.ne_of_lt (Nat.lt_succ_self _))
  have I2 := Inv.made (C := C) I
  have r2 : Vals (V.ref (s.heap.objs.size + 1) :: vs) (Value.ref (s.heap.objs.size + 1) :: us) := .cons rfl r
  refine wpAny_call (make_map (f := f) I.kIn M.makes M.init (beq_iff_eq.mp M.fn) (codeAny_mono (F _ X.stack _ _ (Value.ref (s.heap.objs.size + 1) :: us) ws _ _ _ _ (hr.make C us (ks.zip ws)) (I2.env0.make C us (ks.zip ws)) r2 rz hq) fun r s' hq' => ?_))
  cases r with
  | error e => exact passAt tk σ pins _ _ e s' I2 hq'
  | ok fl =>
    cases fl with
    | ret u =>
      obtain ⟨v, H', I3, rv, ev, q3⟩ := I2.after hq'
      subst ev
      exact ⟨rv, ⟨V.ref (s.heap.objs.size + 1), H', I3, rfl, q3⟩⟩
    | next => exact False.elim hq'
    | brk => exact False.elim hq'
    | cont => exact False.elim hq'
/-! the nodes -/
def kCal (F : List D → List D → Sto → R D) (st : List Bool) (fp fk : List Fe) : Fe := mArg st fp fk F
def kOwn (kc : Nat) (m : Str) (F : List D → List D → Sto → R D) (st : List Bool) (fa : Fe) (fp fk : List Fe) : Fe := fun env s => (fa env s).bind fun d s => if isIns s d kc m = true then mArg st fp fk (fun ds zs s => F (d :: ds) zs s) env s else .bad
def kCmt (kc : Nat) (F : List D → List D → Sto → R D) (st : List Bool) (fa : Fe) (fp fk : List Fe) : Fe := fun env s => (fa env s).bind fun d s => if isCls d kc = true then mArg st fp fk (fun ds zs s => F (.cls kc :: ds) zs s) env s else .bad
def kMake (m : Bool) (kc : Nat) (F : List D → List D → Sto → R D) (st : List Bool) (fp fk : List Fe) : Fe := mArg st fp fk fun ds zs s => made m kc (fun es s => F es zs s) ds s
def kMkv (m : Bool) (kc : Nat) (F : List D → List D → Sto → R D) (st : List Bool) (fa : Fe) (fp fk : List Fe) : Fe := fun env s => (fa env s).bind fun d s => if isCls d kc = true then mArg st fp fk (fun ds zs s => made m kc (fun es s => F es zs s) ds s) env s else .bad
theorem kmade_ok {w : Wd} {ds zs' : List D} {s : Sto} {vs zs : List V} {σ : L2.St} {Q : VK} {m : Bool} (hs : Rs c w s) (r : rvs c w ds vs) (rz : rvs c w zs' zs) (h : post c W σ w (made m kc (fun es s => F es zs' s) ds s) Q) :
    ∀ x dx, w.H x = Option.none → w.H dx = Option.none → dx ≠ x → spK c F (V.ref x :: vs) zs (upd (upd w.H dx (.own x)) x (.ins (c.cl kc) dx [])) (fun v H2 => v = .non ∧ Q (.ref x) H2) (fun cls d H => W cls d σ H) := by
  intro x dx hx hdx hne
  have r1 : Rs c (w.lay dx (.own x)) s := .lay hs hdx
  have e1 : Ext w (w.lay dx (.own x)) := .lay hs hdx
  have hx1 : (w.lay dx (.own x)).H x = none := (upd_ne (Ne.symm hne)).trans hx
  have r2 : Rs c ((w.lay dx (.own x)).new x (.ins (c.cl kc) dx [])) (s ++ [.ins kc [] []]) := .new r1 hx1 ⟨dx, [], upd_same, rfl, .nil⟩
  have e2 : Ext (w.lay dx (.own x)) ((w.lay dx (.own x)).new x (.ins (c.cl kc) dx [])) := .new r1 hx1
  have hN : s.length = w.N := hs.len.symm
  have q2 : rv c ((w.lay dx (.own x)).new x (.ins (c.cl kc) dx [])) (.ref s.length) (.ref x) := by
    simp only [rv]
    rw [hN]
    exact ⟨Nat.lt_succ_self _, by rw [show w.N = (w.lay dx (.own x)).N from rfl, new_eta]⟩
  refine ⟨_, .ref s.length :: ds, zs', s ++ [.ins kc [] []], rfl, r2, .cons q2 (r.mono (e1.trans e2)), rz.mono (e1.trans e2), ?_⟩
  unfold made at h
  have e12 := e1.trans e2
  refine ((post_bind0 e12 h).mono fun v H1 ⟨w3, d, s3, e3, x3, r3, q3, p3⟩ => ?_).wish fun _ _ _ h => h
  subst e3
  split at p3
  · rename_i hn
    have hv : v = .non := by
      have := rv_non q3
      rw [hn] at this
      simpa using this
    refine ⟨hv, ?_⟩
    have q4 := rv.mono x3 _ _ q2
    split at p3
    · exact p3 w3 _ (e12.trans x3) r3 q4
    · exact leave_ok hs (e12.trans x3) r3 q4 p3
  · exact p3.elim
theorem xk_cal {x : Str} {p : Pos} (hk : c.K = X.K) (tk : Takes X W) (K : FnK X.prog X.w X.K X.mg X.base (L2.CX X.prog X.w) k f ks (spK c F)) (hr : Room k X.A) (hg : Gl X x) (hm : X.mg x = some (.ref f)) (hkp : PySem.W.keepIn X.K (.ref f) = true)
    (hs : Spr X c W st fp es) (hkw : Kws X c W ks fk kws) (hdb : (x == ("__debug__" : Str)) = false) : PE X (.Call (.Name x p) es kws pos) (rd c W (kCal F st fp fk)) := by
  refine ⟨fun pins s σ H Q I ⟨w, env, sto, hw, h1, he, hp⟩ => ?_⟩
  subst hw
  refine wpAny_Call_Name_kw (ld_glob I hg hm ?_ hdb)
  refine cw_G (P := X.K.In) (first := []) hk hs hkw (PySem.W.keeps_K hkp) I h1 he hp fun us ws vs zs s1 w1 ds es s1' I1 x1 r1 v1 v2 q1 q2 p1 => ⟨I1.kIn, ?_⟩
  exact wpAny_call (run_K K hr tk I1 v1 v2 (spK_of r1 q1 q2 p1))
theorem xk_make {x : Str} {pp : Pos} {m : Bool} (hk : c.K = X.K) (tk : Takes X W) (M : Mk X.K (c.cl kc) f) (K : FnK X.prog X.w X.K X.mg X.base (L2.CX X.prog X.w) k f ks (spK c F)) (hr : Room (k + 1) X.A) (hg : Gl X x) (hm : X.mg x = some (.ref (c.cl kc)))
    (hs : Spr X c W st fp es) (hkw : Kws X c W ks fk kws) (hdb : (x == ("__debug__" : Str)) = false) : PE X (.Call (.Name x pp) es kws pos) (rd c W (kMake m kc F st fp fk)) := by
  refine ⟨fun pins s σ H Q I ⟨w, env, sto, hw, h1, he, hp⟩ => ?_⟩
  subst hw
  refine wpAny_Call_Name_kw (ld_glob I hg hm ?_ hdb)
  refine cw_G (P := X.K.In) (first := []) hk hs hkw (PySem.W.keeps_K M.kp) I h1 he hp fun us ws vs zs s1 w1 ds es s1' I1 x1 r1 v1 v2 q1 q2 p1 => ⟨I1.kIn, ?_⟩
  exact run_mkK M K hr tk I1 v1 v2 (kmade_ok r1 q1 q2 p1)
theorem xk_mkv {e : Expr} {m : Bool} (hk : c.K = X.K) (tk : Takes X W) (M : Mk X.K (c.cl kc) f) (K : FnK X.prog X.w X.K X.mg X.base (L2.CX X.prog X.w) k f ks (spK c F)) (hr : Room (k + 1) X.A) (ho : PE X e (rd c W fa))
    (hs : Spr X c W st fp es) (hkw : Kws X c W ks fk kws) (ht : eval (.Call e es kws pos) X.env = (do callWith pos (← eval e X.env) [] (backTo pos (starEach es X.env)) (backToKw pos (keywordEach kws X.env)))) : PE X (.Call e es kws pos) (rd c W (kMkv m kc F st fa fp fk)) := by
  refine ⟨fun pins s σ H Q I ⟨w, env, sto, hw, h1, he, hp⟩ => ?_⟩
  subst hw
  rw [ht]
  refine wpAny_bind (thn (ho.run pins s σ _ _ I ⟨w, env, sto, rfl, h1, he, post_bind hp⟩) fun u s1 ⟨x, H1, I1, rx, w1, d, st1, e1, x1, r1, q1, p1⟩ => ?_)
  subst e1
  split at p1
  · rename_i hi
    obtain ⟨rfl, rfl⟩ := isCls_ok q1 hi
    have hu : u = Value.ref (c.cl kc) := rx
    subst hu
    refine cw_G (P := X.K.In) (first := []) hk hs hkw (PySem.W.keeps_K M.kp) I1 r1 (he.mono x1) p1 fun us ws vs zs s2 w2 ds es s2' I2 x2 r2 v1 v2 q2 q3 p2 => ⟨I2.kIn, ?_⟩
    exact run_mkK M K hr tk I2 v1 v2 (kmade_ok r2 q2 q3 p2)
  · exact p1.elim
theorem methK_eval {o : Expr} {name : Str} {apos pos : Pos} {es : List Expr} {kws : List Keyword} {env : Env} (hb : notSuper o = true) (hl : (apos.endLine == pos.line) = true) :
    eval (.Call (.Attribute o name apos) es kws pos) env = (do
      let ov ← eval o env
      standAt apos.atName
      methodCall o name apos pos env ov (es.length + kws.length) (backTo pos (starEach es env)) (backToKw pos (keywordEach kws env))) := by
  show (do
    let ov ← attributeBase o name env (eval o env)
    standAt apos.atName
    methodCall o name apos pos env ov (es.length + kws.length) (backTo pos (starEach es env)) (backToKw pos (keywordEach kws env))) = _
  rw [base_plain hb]
end
end Ir
/-! methods and classmethods with keywords, no star -/
namespace Ir
open PySem PySem.Spec PyProof.Rows L2
section
variable {X : Cx} {c : Rc} {W : WX} {k kc : Nat} {f C p g : Addr} {mc : Value} {F : List D → List D → Sto → R D} {st : List Bool} {ks : List Str} {es : List Expr} {kws : List Keyword} {pos apos : Pos} {fa : Fe} {fp fk : List Fe} {m : Str} {o : Expr}
def kwsNamed : List Keyword → Bool
  | [] => true
  | ⟨some _, _, _⟩ :: r => kwsNamed r
  | _ => false
theorem kwsNamed_ok {env : Env} {pos : Pos} : ∀ {kws : List Keyword}, kwsNamed kws = true → (backToKw pos (keywordEach kws env)).all (fun x => x.1.isSome) = true
  | [], _ => rfl
  | ⟨some _, _, _⟩ :: r, h => by
    simp only [keywordEach, backToKw, List.map_cons, List.all_cons, Option.isSome_some, Bool.true_and]
    exact kwsNamed_ok (kws := r) h
  | ⟨none, _, _⟩ :: r, h => by simp [kwsNamed] at h
theorem methK_eval2 {o : Expr} {name : Str} {apos pos : Pos} {es : List Expr} {kws : List Keyword} {env : Env} (hb : notSuper o = true) (hl : (apos.endLine == pos.line) = true) (hn : noStars es = true) (hkw : kwsNamed kws = true) (hf : es.length + kws.length < 29) :
    eval (.Call (.Attribute o name apos) es kws pos) env = (do
      let ov ← eval o env
      standAt apos.atName
      let (f, first) ← holding [ov] (getMethod ov name (do return (← importBound o env).getD true))
      callWith pos f first (backTo pos (starEach es env)) (backToKw pos (keywordEach kws env))) := by
  have few : methodCallForm (es.length + kws.length) (backTo pos (starEach es env)) (backToKw pos (keywordEach kws env)) = true := by
    unfold methodCallForm
    rw [star_all hn]
    have := kwsNamed_ok (env := env) (pos := pos) hkw
    simp only [this, Bool.true_and, decide_eq_true_eq]
    split <;> omega
  rw [methK_eval hb hl]
  unfold methodCall
  rw [few]
  unfold calleeOf methodCallPos
  simp only [hl, Bool.not_true, Bool.false_or, if_true, pure_bind]
theorem xk_mth (hk : c.K = X.K) (tk : Takes X W) (hc : Cls X.K (c.cl kc)) (hm : Meth X.K (c.cl kc) m f) (K : FnK X.prog X.w X.K X.mg X.base (L2.CX X.prog X.w) k f ks (spK c F)) (hr : Room k X.A)
    (ho : PE X o (rd c W fa)) (hs : Spr X c W st fp es) (hkw : Kws X c W ks fk kws) (hb : notSuper o = true) (hl : (apos.endLine == pos.line) = true) (hn : noStars es = true) (hnk : kwsNamed kws = true) (hf : es.length + kws.length < 29) :
    PE X (.Call (.Attribute o m apos) es kws pos) (rd c W (kOwn kc m F st fa fp fk)) := by
  refine ⟨fun pins s σ H Q I ⟨w, env, sto, hw, h1, he, hp⟩ => ?_⟩
  subst hw
  refine PySem.W.methodCall_KW (thn (ho.run pins s σ _ _ I ⟨w, env, sto, rfl, h1, he, post_bind hp⟩) fun u s1 ⟨x, H1, I1, rx, w1, d, st1, e1, x1, r1, q1, p1⟩ => ?_) (methK_eval2 hb hl hn hnk hf)
  subst e1
  split at p1
  · rename_i hi
    obtain ⟨y, dx, fl, rfl, h1, h2⟩ := isIns_ok r1 q1 hi
    have hu : u = Value.ref y := rx
    subst hu
    refine getmeth_ok I1 h1 hc hm h2 ?_
    refine cw_G (P := X.K.In) (first := [.ref y]) hk hs hkw (PySem.W.keeps_K hm.kp) I1 r1 (he.mono x1) p1 fun us ws vs zs s2 w2 ds es s2' I2 x2 r2 v1 v2 q2 q3 p2 => ⟨I2.kIn, ?_⟩
    exact wpAny_call (run_K (us := .ref y :: us) (vs := .ref y :: vs) K hr tk I2 (.cons rfl v1) v2 (spK_of r2 (.cons (rv.mono x2 _ _ q1) q2) q3 p2))
  · exact p1.elim
theorem xk_cmt (hk : c.K = X.K) (tk : Takes X W) (hc : ClX.CRead X.K (c.cl kc) mc) (hm : ClX.CMet X.K (c.cl kc) mc m p f) (K : FnK X.prog X.w X.K X.mg X.base (L2.CX X.prog X.w) k f ks (spK c F)) (hr : Room k X.A)
    (ho : PE X o (rd c W fa)) (hs : Spr X c W st fp es) (hkw : Kws X c W ks fk kws) (hb : notSuper o = true) (hl : (apos.endLine == pos.line) = true) (hn : noStars es = true) (hnk : kwsNamed kws = true) (hf : es.length + kws.length < 29) :
    PE X (.Call (.Attribute o m apos) es kws pos) (rd c W (kCmt kc F st fa fp fk)) := by
  refine ⟨fun pins s σ H Q I ⟨w, env, sto, hw, h1, he, hp⟩ => ?_⟩
  subst hw
  refine PySem.W.methodCall_KW (thn (ho.run pins s σ _ _ I ⟨w, env, sto, rfl, h1, he, post_bind hp⟩) fun u s1 ⟨x, H1, I1, rx, w1, d, st1, e1, x1, r1, q1, p1⟩ => ?_) (methK_eval2 hb hl hn hnk hf)
  subst e1
  split at p1
  · rename_i hi
    obtain ⟨rfl, rfl⟩ := isCls_ok q1 hi
    have hu : u = Value.ref (c.cl kc) := rx
    subst hu
    refine ClX.getmethcm_ok I1 hc hm fun s2 I2 => ?_
    refine cw_G (pins := _ :: pins) (P := fun h => PySem.W.MethP X.K _ f (.ref (c.cl kc)) h) (first := []) hk hs hkw (PySem.W.keeps_M hm.fi) I2 r1 (he.mono x1) p1 fun us ws vs zs s3 w2 ds es s2' I3 x2 r2 v1 v2 q2 q3 p2 => ⟨⟨ClX.pin_at I3, I3.kIn⟩, ?_⟩
    refine run_cmK K hr tk I3 v1 v2 (spK_of r2 (.cons ?_ q2) q3 p2)
    simp only [rv]
  · exact p1.elim
end
end Ir
end
section
set_option Elab.async false
set_option linter.all false
set_option maxRecDepth 100000
/-! dict(zip(..)), list.index of texts -/
namespace Ir
open PySem PySem.Spec PyProof.Rows L2
def isSq (s : Sto) (d : D) : Bool := isLst s d || isTup s d
def apDzp (m : Bool) (s : Sto) (d e : D) : Po := if (isSq s d && isSq s e) = true then (seqOf s d).bind fun zs => (seqOf s e).bind fun ys => if (zs.all (fun k => (keyD k).isSome) && distD ((zs.zip ys).map (·.1))) = true then newD m s ((zs.zip ys).map (·.1)) ((zs.zip ys).map (·.2)) else none else none
def mDzp (m : Bool) (fa fb : Fe) : Fe := m2g (apDzp m) fa fb
theorem keys_view {c : Rc} {w : Wd} : ∀ {ds : List D} {vs : List V}, rvs c w ds vs → ds.all (fun k => (keyD k).isSome) = true → ∃ ks : List Key, ds = ks.map kd ∧ vs = ks.map kV
  | [], vs, h, _ => by
    simp only [rvs] at h
    subst h
    exact ⟨[], rfl, rfl⟩
  | d :: ds, vs, h, q => by
    simp only [rvs] at h
    obtain ⟨v, r, rfl, h1, h2⟩ := h
    simp only [List.all_cons, Bool.and_eq_true] at q
    obtain ⟨ks, e1, e2⟩ := keys_view h2 q.2
    cases d <;> first | (simp [keyD] at q; done) | skip
    · rename_i i
      simp only [rv] at h1
      exact ⟨.inl i :: ks, by rw [e1]; rfl, by rw [e2, h1]; rfl⟩
    · rename_i x
      simp only [rv] at h1
      exact ⟨.inr x :: ks, by rw [e1]; rfl, by rw [e2, h1]; rfl⟩
theorem zip_fst {α β γ : Type} (f : α → γ) : ∀ (as : List α) (bs : List β), ((as.map f).zip bs).map (·.1) = (as.zip bs).map fun q => f q.1
  | [], _ => rfl
  | _ :: _, [] => rfl
  | a :: as, b :: bs => by simp only [List.map_cons, List.zip_cons_cons, zip_fst f as bs]
theorem zip_len2 {α β γ : Type} : ∀ (as : List α) (bs : List β) (cs : List γ), bs.length = cs.length → (as.zip bs).map (·.1) = (as.zip cs).map (·.1)
  | [], _, _, _ => rfl
  | _ :: _, [], [], _ => rfl
  | a :: as, b :: bs, c :: cs, h => by simp only [List.zip_cons_cons, List.map_cons, zip_len2 as bs cs (by simpa using h)]
  | _ :: _, [], _ :: _, h => by simp at h
  | _ :: _, _ :: _, [], h => by simp at h
theorem zip_rv {c : Rc} {w : Wd} {α : Type} : ∀ {as : List α} {bs : List D} {us : List V} (zs : List D), zs.length = as.length → rvs c w bs us → rvs c w ((zs.zip bs).map (·.2)) ((as.zip us).map (·.2))
  | [], bs, us, [], _, _ => .nil
  | a :: as, [], us, z :: zs, _, h => by
    simp only [rvs] at h
    subst h
    exact .nil
  | a :: as, b :: bs, us, z :: zs, l, h => by
    simp only [rvs] at h
    obtain ⟨v, r, rfl, h1, h2⟩ := h
    exact .cons h1 (zip_rv zs (by simpa using l) h2)
  | [], _, _, _ :: _, l, _ => by simp at l
  | _ :: _, _, _, [], l, _ => by simp at l
theorem zip_kvs {us : List V} {its : List Value} : ∀ {ks : List Key}, Vals us its → KV (ks.zip us) (ks.zip its)
  | [], _ => by rw [List.zip_nil_left, List.zip_nil_left]; exact .nil
  | k :: ks, h => by
    cases h with
    | nil => exact .nil
    | cons h t => exact .cons ⟨rfl, h⟩ (zip_kvs t)
section
variable {X : Cx} {c : Rc} {W : WX} {a b e : Expr} {fa fb : Fe} {pos : Pos}
theorem x_dzp {m : Bool} {p p2 pos2 : Pos} (hk : c.K = X.K) (hc : X.calm = true) (hg : Gl X "dict") (hm : X.mg "dict" = none) (hg2 : Gl X "zip") (hm2 : X.mg "zip" = none) (ha : PE X a (rd c W fa)) (hb : PE X b (rd c W fb)) (na : isStar a = false) (nb : isStar b = false) :
    PE X (.Call (.Name "dict" p) [.Call (.Name "zip" p2) [a, b] [] pos2] [] pos) (rd c W (mDzp m fa fb)) := by
  refine ⟨fun pins s σ H Q I ⟨w, env, st, hw, hs, he, hp⟩ => ?_⟩
  subst hw
  refine Call_ (ld_blt I hg hm (show bootBuiltins "dict" = some (.type "dict") by decide +kernel) ?_ (by decide) (by decide))
  refine callWith_type1 (args_cons ?_ rfl) rfl rfl
  refine Call_ (ld_blt I hg2 hm2 PyProof.Rows.boot_zip ?_ (by decide) (by decide))
  have hp' : rda c W (sCons fa (sCons fb sNil)) σ w.H fun vs H1 => ∃ (w1 : Wd) (s1 : Sto) (d e : D) (x y : V), vs = [x, y] ∧ w1.H = H1 ∧ Rs c w1 s1 ∧ rv c w1 d x ∧ rv c w1 e y ∧ po c w1 (apDzp m s1 d e) Q := by
    refine ⟨w, env, st, rfl, hs, he, ?_⟩
    unfold mDzp m2g at hp
    unfold sCons
    cases ha' : fa env st with
    | bad => rw [ha'] at hp; exact hp.elim
    | ex k ds s' => rw [ha'] at hp; exact hp
    | ok d s1 =>
      rw [ha'] at hp
      show posts c W σ w (R.bind (R.bind (fb env s1) _) _) _
      replace hp : post c W σ w ((fb env s1).bind fun e s => ofPo (apDzp m s d e)) Q := hp
      cases hb' : fb env s1 with
      | bad => rw [hb'] at hp; exact hp.elim
      | ex k ds s' => rw [hb'] at hp; exact hp
      | ok e s2 =>
        rw [hb'] at hp
        replace hp : post c W σ w (ofPo (apDzp m s2 d e)) Q := hp
        show posts c W σ w (.ok [d, e] s2) _
        intro w' vs x r q
        obtain ⟨v, u, rfl, h1, h2⟩ := rvs2 q
        exact ⟨w', s2, d, e, v, u, rfl, rfl, r, h1, h2, post_of (σ := σ) (W := W) (post.ext hp x)⟩
  refine callWith_type1 (thn ((x_cons ha (x_cons hb x_nil (star_one nb)) (star_one na)).run pos2 pins s σ _ _ I hp') fun us s1 ⟨vs, H1, I1, r1, w1, st1, d, e, x, y, ev, e1, rs1, q1, q2, p1⟩ => ?_) (star_one na) (by rw [star_one nb]; rfl)
  subst e1 ev
  cases r1 with
  | cons r rr =>
    cases rr with
    | cons r' rr =>
      cases rr
      unfold apDzp at p1
      obtain ⟨g1, g2⟩ := po_if p1
      obtain ⟨zs, g3, g4⟩ := po_bind g2
      obtain ⟨ys, g5, g6⟩ := po_bind g4
      obtain ⟨g7, g8⟩ := po_if g6
      simp only [isSq, Bool.and_eq_true] at g1 g7
      obtain ⟨k1, a1, ds, vs, rfl, d1, j2, j3, j4⟩ := sqd_of rs1 q1 g1.1
      obtain ⟨k2, b1, es, us, rfl, d2, l2, l3, l4⟩ := sqd_of rs1 q2 g1.2
      rw [g3] at j2; cases j2
      rw [g5] at l2; cases l2
      cases r; cases r'
      rw [hk] at j3 l3
      obtain ⟨its, rv1, p1', s1l⟩ := j3.inv I1
      obtain ⟨its2, rv2, p2', s2l⟩ := l3.inv I1
      obtain ⟨ks, f1, f2⟩ := keys_view j4 g7.1
      subst f1 f2
      obtain ⟨o1, eo1⟩ := p1'.is
      obtain ⟨o2, eo2⟩ := p2'.is
      have lk : its.length = ks.length := by have := rv1.length; simpa using this.symm
      refine zp_call p1' p2' fun g hz hTI hTO f1 f2 hkeep => args_nil ?_
      have DA := PySem.W.ktu_apart s1.heap.objs.size a1 b1 (Heap.lt_size eo1) (Heap.lt_size eo2)
      have hgs : s1.heap.objs.size ≤ g.objs.size := Nat.le_trans (Nat.le_add_right _ 4) (Nat.le_of_lt (Heap.lt_size hz))
      have hkr : KV (ks.zip us) (ks.zip its2) := zip_kvs rv2
      have hkl : (ks.zip its2).length = min its.toArray.size its2.toArray.size := by rw [List.length_zip, List.size_toArray, List.size_toArray, lk]
      have hsz : min its.toArray.size its2.toArray.size ≤ sizeLine := by
        refine Nat.le_trans (Nat.min_le_left _ _) ?_
        rw [List.size_toArray, lk]
        simpa using s1l
      refine PySem.call_dict_pairs (knd := mixKind X.prog X.w) (kvs := ks.zip its2) (arg_zp k1 k2 _ _ _ _ _ a1 b1 DA its.toArray its2.toArray) (I1.ok.hd hc) ⟨hz, ⟨_, _, hTO⟩, hTI, f1, f2, p1'.to fun o e => hkeep _ o e, p2'.to fun o e => hkeep _ o e⟩ ⟨hkl, fun i key v ⟨z1, z2⟩ => ?_⟩ hsz fun h' tk hd' hk' => ?_
      · have z1 : its[i]? = some key := by simpa using z1
        have z2 : its2[i]? = some v := by simpa using z2
        obtain ⟨k, hk1⟩ : ∃ k, ks[i]? = some k := by
          have : i < its.length := (List.getElem?_eq_some_iff.mp z1).1
          exact ⟨ks[i]'(by omega), List.getElem?_eq_getElem _⟩
        have rk : RelV (kV k) key := by
          obtain ⟨u, hu, ru⟩ := rv1.get (i := i) (x := kV k) (by rw [List.getElem?_map, hk1]; rfl)
          rw [z1] at hu
          cases hu
          exact ru
        exact ⟨k, by rw [List.getElem?_zip_eq_some]; exact ⟨hk1, z2⟩, kV_is rk⟩
      · have fr : w1.H g.objs.size = none := I1.hok.fresh hgs
        have hm' : (g.objs.size == sysModules) = false := beq_eq_false_iff_ne.mpr (Nat.ne_of_gt (Nat.lt_of_lt_of_le I1.big hgs))
        have e0 : ((ks.map kd).zip ys).map (·.1) = (ks.zip us).map fun q => kd q.1 := by
          rw [zip_fst kd]
          have h := congrArg (List.map kd) (zip_len2 ks ys us l4.length)
          rw [List.map_map, List.map_map] at h
          exact h
        have dist : distD ((ks.zip us).map fun q => kd q.1) = true := by rw [← e0]; exact g7.2
        have hlen : (mergeK [] (ks.zip us)).length ≤ sizeLine := by
          rw [merge_nil (dist_kv dist), List.length_zip]
          exact Nat.le_trans (Nat.min_le_left _ _) (by simpa using s1l)
        have I3 := I1.laid (t' := tk) (h' := h') (a := g.objs.size) (o := .dK (mergeK [] (ks.zip us))) (fun b o eb => hk' b o (fun hb => by
          have lt := Heap.lt_size eb
          simp only [List.mem_cons, List.not_mem_nil, or_false] at hb
          rcases hb with hb | hb | hb | hb <;> rw [hb] at lt <;> first | exact Nat.lt_irrefl _ lt | exact Nat.lt_irrefl _ (Nat.lt_of_le_of_lt (Nat.le_add_right _ _) lt)) (hkeep b o eb)) hgs ⟨hlen, hm', merged [] (ks.zip its2), KV.merge hkr .nil, hd'⟩
        refine ⟨.ref g.objs.size, _, I3, rfl, ?_⟩
        rw [merge_nil (dist_kv dist)]
        exact po_newD rs1 e0 (zip_rv (ks.map kd) (by simp) l4) fr g8
end
end Ir
/-! methods of builtin types, by any meaning -/
namespace Ir
open PySem PySem.Spec PyProof.Rows L2
def rg (c : Rc) (g : Sto → D → List D → Po) : V → List V → Hp → VK → Prop := fun x xs H Q => ∃ (w : Wd) (s : Sto) (d : D) (ds : List D), w.H = H ∧ Rs c w s ∧ rv c w d x ∧ rvs c w ds xs ∧ po c w (g s d ds) Q
def mBm (ty : String) (g : Sto → D → List D → Po) (fa : Fe) (fs : Fs) : Fe := fun env s => (fa env s).bind fun d s => if isTy ty s d = true then (fs env s).bind fun ds s => ofPo (g s d ds) else .bad
section
variable {X : Cx} {c : Rc} {W : WX} {e o : Expr} {es : List Expr} {fa : Fe} {fs : Fs} {g : Sto → D → List D → Po} {name : Str} {apos cpos : Pos} {ty id : String}
theorem x_bg (hk : c.K = X.K) (pa : PlainAttrs ty) (slot : Slot ty name id) (hty : typeOf (.builtin id) = pure (.type "method_descriptor")) (hm : MtR X id (rg c g)) (ho : PE X o (rd c W fa)) (ha : PA X (e :: es) (rda c W fs))
    (hb : notSuper o = true) (hl : (apos.endLine == cpos.line) = true) (hn : noStars (e :: es) = true) (hf : (e :: es).length < 30) : PE X (.Call (.Attribute o name apos) (e :: es) [] cpos) (rd c W (mBm ty g fa fs)) :=
  (pe_bm pa slot hty hm ho ha (base_plain hb _) (by rw [star_all hn]; simpa [backToKw, keywordEach] using hf) hl (star_one (noStars_cons hn).1) (star_any (noStars_cons hn).2)).imp fun σ H Q ⟨w, env, s, hw, hs, he, hp⟩ => by
    subst hw
    refine ⟨w, env, s, rfl, hs, he, (post_bind hp).mono fun x H1 ⟨w1, d, s1, e1, x1, r1, q1, p1⟩ => ?_⟩
    subst e1
    split at p1
    · refine ⟨hk ▸ isTy_ok r1 q1 (by assumption), w1, env, s1, rfl, r1, he.mono x1, (posts_bind p1).mono fun vs H2 ⟨w2, ds, s2, e2, x2, r2, q2, p2⟩ => ?_⟩
      exact ⟨w2, s2, d, ds, e2, r2, rv.mono x2 _ _ q1, q2, post_of p2⟩
    · exact p1.elim
theorem x_bg0 (hk : c.K = X.K) (pa : PlainAttrs ty) (slot : Slot ty name id) (hty : typeOf (.builtin id) = pure (.type "method_descriptor")) (hm : MtR X id (rg c g)) (ho : PE X o (rd c W fa))
    (hb : notSuper o = true) (hl : (apos.endLine == cpos.line) = true) : PE X (.Call (.Attribute o name apos) [] [] cpos) (rd c W (mBm ty g fa sNil)) :=
  (pe_bm0 pa slot hty hm ho (base_plain hb _) hl).imp fun σ H Q ⟨w, env, s, hw, hs, he, hp⟩ => by
    subst hw
    refine ⟨w, env, s, rfl, hs, he, (post_bind hp).mono fun x H1 ⟨w1, d, s1, e1, x1, r1, q1, p1⟩ => ?_⟩
    subst e1
    split at p1
    · refine ⟨hk ▸ isTy_ok r1 q1 (by assumption), ?_⟩
      exact ⟨w1, s1, d, [], rfl, r1, q1, .nil, post_of p1⟩
    · exact p1.elim
end
/-- the first place where f holds -/
def firstP (q : PyData) : List PyData → Option Nat
  | [] => none
  | p :: ps => if PyData.eqv p q = true then some 0 else (firstP q ps).map (· + 1)
theorem firstP_ok {q : PyData} : ∀ {ps : List PyData} {j : Nat}, firstP q ps = some j → ∃ z, ps[j]? = some z ∧ PyData.eqv z q = true ∧ ∀ (m : Nat) (z' : PyData), m < j → ps[m]? = some z' → PyData.eqv z' q = false
  | [], j, h => by cases h
  | p :: ps, j, h => by
    unfold firstP at h
    split at h
    · cases h
      exact ⟨p, rfl, by assumption, fun m z' hm => absurd hm (Nat.not_lt_zero _)⟩
    · obtain ⟨j', h', rfl⟩ := Option.map_eq_some_iff.mp h
      obtain ⟨z, h1, h2, h3⟩ := firstP_ok h'
      refine ⟨z, by simpa using h1, h2, fun m z' hm hz => ?_⟩
      cases m with
      | zero =>
        simp only [List.getElem?_cons_zero, Option.some.injEq] at hz
        subst hz
        rename_i hn
        simpa using hn
      | succ m => exact h3 m z' (by omega) (by simpa using hz)
/-- the builtin methods that are read so -/
inductive Mb where
  | lindex
def Mb.id : Mb → String × Str × String × Bool
  | .lindex => ("list", "index", "list.index", true)
def apLix (s : Sto) (d : D) (as : List D) : Po := match as with
  | [e] => (pdL s d).bind fun p => (pdL s e).bind fun q => match p with
    | .list ps => (firstP q ps).bind fun j => ret s (.int j)
    | _ => none
  | _ => none
def Mb.g : Mb → Sto → D → List D → Po
  | .lindex => apLix
theorem Dp.lst_ref {K : PySem.W.Frag} {H : Hp} {x : V} {ps : List PyData} (h : Dp K H x (.list ps)) : ∃ a, x = V.ref a := by
  cases h with
  | lst _ _ => exact ⟨_, rfl⟩
theorem mb_ok {X : Cx} {c : Rc} (hk : c.K = X.K) (hu : X.A.units + 65 < cLine) (o : Mb) : PlainAttrs o.id.1 ∧ Slot o.id.1 o.id.2.1 o.id.2.2.1 ∧ typeOf (.builtin o.id.2.2.1) = pure (.type "method_descriptor") ∧ MtR X o.id.2.2.1 (rg c o.g) := by
  cases o with
  | lindex =>
    refine ⟨F.plainAttrs_list, F.slot_list_index, rfl, fun pins s σ H x xs v us Q I rx rxs ⟨w, st, d, ds, hw, hs, hd, hds, hp⟩ => ?_⟩
    subst hw
    have hp : po c w (apLix st d ds) Q := hp
    unfold apLix at hp
    split at hp
    · rename_i e
      obtain ⟨p, g1, hp⟩ := po_bind hp
      obtain ⟨q, g2, hp⟩ := po_bind hp
      cases p with
      | list ps =>
        obtain ⟨j, g3, hp⟩ := po_bind hp
        obtain ⟨y, rfl, hy⟩ := rvs1 hds
        obtain ⟨k1, k2⟩ := pdL_dp hs g1 hd
        obtain ⟨k3, k4⟩ := pdL_dp hs g2 hy
        obtain ⟨z, z1, z2, z3⟩ := firstP_ok g3
        rw [hk] at k1 k3
        obtain ⟨a, rfl⟩ := Dp.lst_ref k1
        exact mt_indexD hu pins s σ w.H _ _ v us Q I rx rxs ⟨a, y, q, ps, j, z, rfl, rfl, k1, k3, k2, k4, z1, z2, z3, po_ret hs rv_int hp⟩
      | _ => exact hp.elim
    · exact hp.elim
end Ir
end
section
set_option Elab.async false
set_option linter.all false
set_option maxRecDepth 100000
namespace Ir
open PySem PySem.Spec PyProof.Rows L2

/-! ### the own syntax of expressions -/
/-- the head of a call with stars or keywords -/
inductive Ch where
  | fn (i : Nat) | own (kc : Nat) (m : Str) (i : Nat) | cmt (kc : Nat) (m : Str) (i : Nat) | make (m : Bool) (kc i : Nat) | mkv (m : Bool) (kc i : Nat)
inductive Xop where
  | bin (o : O2) | cmp (o : O2) | ix | neg | tup | lst (m : Bool) | bt (o : On) | meth (ty : String) (o : On) | fld (f : Str)
  | call (i : Nat) | own (kc : Nat) (m : Str) (i : Nat) | cmt (kc : Nat) (m : Str) (i : Nat) | make (m : Bool) (kc i : Nat) | mkv (m : Bool) (kc i : Nat) | cval (kc : Nat) (f : Str) (d : D) | opk (kc i : Nat) | inv (kc i : Nat) | ink (neg : Bool) (kc i : Nat)
  | srt (m : Bool) (kk : Kk) | slc (m l h : Bool) | eqk (neg : Bool) (kc i : Nat) | eqa (neg : Bool) (kc i : Nat) | bok (kc i : Nat) | dct (ps : List (Int × Int))
  | kcall (h : Ch) (st : List Bool) (ks : List Str) | bmx (o : Mb) | dzp (m : Bool)
  | sset (m : Bool) | lset | rpr | callo (kc i : Nat) | dsp (m : Bool) (ks : List Key) | dx | din (neg : Bool) | dqe (neg : Bool) | dcpy (m : Bool) | dlst (m : Bool) | dpr (m : Bool) | rp (m : Bool) | rvs (m : Bool)
mutual
inductive E where
  | no | yes | var (i : Nat) | con (d : D) | glb (d : D) | bty (n : String)
  | x (o : Xop) (es : Es)
  | and_ (a b : E) | or_ (a b : E) | not_ (a : E) | ite (t a b : E) | chain (o1 o2 : O2) (a b c : E)
  | comp (m : Bool) (i : I) (t : Tg) (own : List (Str × Nat)) (q : E) (e : E)
inductive Es where
  | nil | cons (e : E) (es : Es)
inductive I where
  | seq (e : E) | rng (es : Es) | enum (es : Es) | zip (es : Es)
end
/-- the meanings of the world's defs (by bound parameters): at this level, and at the one below -/
structure Gm where
  raw : Nat → List D → Sto → R D
  low : Nat → List D → Sto → R D
  fu : Nat
inductive Gv where
  | fn (i : Nat) | val (d : D)
/-- the table of the world: globals, builtins that stand, fields, kits, how defs bind, methods, classmethods, class constants, makers, operators -/
structure Gt where
  gl : List (Str × Gv)
  bl : List Str
  F : Nat → Str → Bool
  T : Tab
  pb : Nat → List D → Option (List D)
  pk : Nat → List Str → List D → List D → Option (List D)
  ms : List ((Nat × Str) × Nat)
  cs : List ((Nat × Str) × Nat)
  cv : List ((Nat × Str) × D)
  mks : List (Nat × Nat)
  ob : List ((Nat × Str) × Nat)
  ou : List ((Nat × Str) × Nat)
  lam : List Str
  dn : List Nat
/-- a positional call -/
def posM (G : Gt) (r : Nat → List D → Sto → R D) (i : Nat) (ds : List D) (s : Sto) : R D := match G.pb i ds with
  | some es => r i es s
  | none => .bad
/-- a call with keywords -/
def posK (G : Gt) (r : Nat → List D → Sto → R D) (i : Nat) (ks : List Str) (ds zs : List D) (s : Sto) : R D := match G.pk i ks ds zs with
  | some es => r i es s
  | none => .bad
abbrev noE : Fe := fun _ _ => .bad
def mKc (G : Gt) (M : Gm) (st : List Bool) (ks : List Str) : Ch → List Fe → Fe
  | .fn i, fs => kCal (posK G M.raw i ks) st (fs.take st.length) (fs.drop st.length)
  | .make m kc i, fs => kMake m kc (posK G M.low i ks) st (fs.take st.length) (fs.drop st.length)
  | .own kc m i, f :: fs => kOwn kc m (posK G M.raw i ks) st f (fs.take st.length) (fs.drop st.length)
  | .cmt kc _ i, f :: fs => kCmt kc (posK G M.raw i ks) st f (fs.take st.length) (fs.drop st.length)
  | .mkv m kc i, f :: fs => kMkv m kc (posK G M.low i ks) st f (fs.take st.length) (fs.drop st.length)
  | _, _ => noE
def evx (G : Gt) (M : Gm) : Xop → List Fe → Fe
  | .bin o, [f, g] => m2 o f g
  | .cmp o, [f, g] => m2 o f g
  | .ix, [f, g] => m2 .ix f g
  | .neg, [f] => mn G.T .neg (sCons f sNil)
  | .tup, fs => mn G.T .tup (seqFs fs)
  | .lst m, fs => mn G.T (.lst m) (seqFs fs)
  | .bt o, fs => mn G.T o (seqFs fs)
  | .meth ty o, f :: fs => mMeth G.T ty o f (seqFs fs)
  | .fld f, [g] => mFld G.F f g
  | .call i, fs => mCal (posM G M.raw i) (seqFs fs)
  | .own kc m i, f :: fs => mOwn kc m (posM G M.raw i) f (seqFs fs)
  | .cmt kc _ i, f :: fs => mCmt kc (posM G M.raw i) f (seqFs fs)
  | .make m kc i, fs => mMake m kc (posM G M.low i) (seqFs fs)
  | .mkv m kc i, f :: fs => mMkv m kc (posM G M.low i) f (seqFs fs)
  | .cval kc _ d, [f] => mCval kc d f
  | .opk kc i, [f, g] => mOpK kc (posM G M.raw i) f g
  | .inv kc i, [f] => mUnK kc (posM G M.raw i) f
  | .srt m kk, [f] => mSort m kk f
  | .slc m true true, [f, g, k] => mSl m f (some g) (some k)
  | .slc m true false, [f, g] => mSl m f (some g) none
  | .slc m false true, [f, g] => mSl m f none (some g)
  | .slc m false false, [f] => mSl m f none none
  | .ink neg kc i, [f, g] => mTwo (inKR neg kc (posM G M.raw i)) f g
  | .eqk neg kc i, [f, g] => mTwo (eqKR neg kc (posM G M.low i)) f g
  | .eqa neg kc i, [f, g] => mTwo (eqAR neg kc (posM G M.low i)) f g
  | .dct ps, [] => mDic ps
  | .bok kc i, [f] => mBok kc (posM G M.low i) f
  | .sset m, [f] => mSset m f
  | .lset, [f] => mLset f
  | .rpr, [f] => mRepr f
  | .callo kc i, f :: fs => mCallO kc (posM G M.raw i) f (seqFs fs)
  | .dsp m ks, fs => mDsp m ks (seqFs fs)
  | .dx, [f, g] => mDx f g
  | .din neg, [f, g] => mDin neg f g
  | .dqe neg, [f, g] => m2g (apDeq neg) f g
  | .dcpy m, [f] => mDcpy m f
  | .dlst m, [f] => mDlst m f
  | .dpr m, [f] => mDpr m f
  | .rp m, [f, g] => m2g (apRp m) f g
  | .rvs m, [f] => mRv m f
  | .kcall h st ks, fs => mKc G M st ks h fs
  | .bmx o, f :: fs => mBm o.id.1 o.g f (seqFs fs)
  | .dzp m, [f, g] => mDzp m f g
  | _, _ => noE
def evxt : Xop → Fe → Ft
  | .cmp _, f => tCmpB f
  | .ink _ _ _, f => tCmpB f
  | .eqk _ _ _, f => tCmpB f
  | .eqa _ _ _, f => tCmpB f
  | .din _, f => tCmpB f
  | .dqe _, f => tCmpB f
  | _, f => tVal f
def mVar (i : Nat) : Fe := fun env s => match env[i]? with
  | some (some d) => .ok d s
  | _ => .bad
abbrev tv (f : Fe) : Fe × Ft := (f, tVal f)
mutual
def evp (G : Gt) (M : Gm) : E → Fe × Ft
  | .no => (noE, fun _ _ => .bad)
  | .yes => (noE, fun _ s => .ok true s)
  | .var i => tv (mVar i)
  | .con d => tv fun _ s => .ok d s
  | .glb d => tv fun _ s => .ok d s
  | .bty n => tv fun _ s => .ok (.ty n) s
  | .x o es => (evx G M o (evs G M es), evxt o (evx G M o (evs G M es)))
  | .and_ a b => (mAnd (evp G M a).1 (evp G M b).1, tAnd' (evp G M a).2 (evp G M b).2)
  | .or_ a b => (mOr (evp G M a).1 (evp G M b).1, tOr' (evp G M a).2 (evp G M b).2)
  | .not_ a => (mNot (evp G M a).1, tNot' (evp G M a).2)
  | .ite t a b => tv (mIf (evp G M t).2 (evp G M a).1 (evp G M b).1)
  | .chain o1 o2 a b c => (mChain o1 o2 (evp G M a).1 (evp G M b).1 (evp G M c).1, tCmpB (mChain o1 o2 (evp G M a).1 (evp G M b).1 (evp G M c).1))
  | .comp m i t own q e => tv (mComp m (evi G M i) t (own.map (·.2)) (evp G M q).2 (evp G M e).1)
def evs (G : Gt) (M : Gm) : Es → List Fe
  | .nil => []
  | .cons e es => (evp G M e).1 :: evs G M es
def evi (G : Gt) (M : Gm) : I → Fi
  | .seq e => iSeqC (evp G M e).1
  | .rng es => match evs G M es with
    | [f] => iRng1' (seqFs [f])
    | [f, g] => iRng2' (seqFs [f, g])
    | [f, g, h] => iRng3' (seqFs [f, g, h])
    | _ => fun _ _ => .bad
  | .enum es => iEnum' (seqFs (evs G M es))
  | .zip es => iZip' (seqFs (evs G M es))
end

/-! ### what a text is checked for -/
structure Sx where
  N : List Str
  sc : Scope
  df : Bool
  ql : Str
def plainName (x : Str) : Bool := !decide (x = "__name__") && !(x == ("__debug__" : Str)) && !(x == ("__classdict__" : Str))
def isGl (S : Sx) (x : Str) : Bool := decide (S.sc.names.lookup x = some .globalImplicit) && plainName x
def isVis (S : Sx) (x : Str) : Bool := (decide (S.sc.names.lookup x = some .local) || decide (S.sc.names.lookup x = some .cell) || decide (S.sc.names.lookup x = some .free)) && plainName x
def binOk : O2 → Operator → Bool
  | .add _, .Add => true | .sub, .Sub => true | .mul, .Mult => true | .fdiv, .FloorDiv => true | .mod, .Mod => true | .pow, .Pow => true
  | _, _ => false
def cmpOk : O2 → CmpOp → Bool
  | .eq, .Eq => true | .ne, .NotEq => true | .lt, .Lt => true | .le, .LtE => true | .gt, .Gt => true | .ge, .GtE => true
  | .isn, .Is => true | .notn, .IsNot => true | .isb, .Is => true | .notb, .IsNot => true | .in_, .In => true | .notin, .NotIn => true
  | _, _ => false
def btId : On → Option (Str × Bool × String)
  | .len => some ("len", false, "len") | .abs => some ("abs", false, "abs") | .int => some ("int", true, "int") | .bool => some ("bool", true, "bool")
  | .list _ => some ("list", true, "list") | .tuple => some ("tuple", true, "tuple") | .any => some ("any", false, "any") | .all => some ("all", false, "all")
  | .max => some ("max", false, "max") | .min => some ("min", false, "min") | .max2 => some ("max", false, "max") | .min2 => some ("min", false, "min")
  | .isi => some ("isinstance", false, "isinstance")
  | _ => none
def mtId : String → On → Option (Str × String × Bool)
  | "list", .append => some ("append", "list.append", true) | "list", .pop => some ("pop", "list.pop", false) | "list", .popAt => some ("pop", "list.pop", true) | "list", .extend => some ("extend", "list.extend", true)
  | _, _ => none
def conD : Const → Option D
  | .none => some .non | .bool b => some (.bl b) | .int i => some (.int i) | .str x => some (.str x) | _ => none
def gvFn : Option Gv → Option Nat
  | some (.fn i) => some i
  | _ => none
def gvVal : Option Gv → Option D
  | some (.val d) => some d
  | _ => none
def arOk (ar : Bool) (es : List Expr) : Bool := if ar = true then !es.isEmpty && decide (es.length < 30) else es.isEmpty
def slParts (l h : Bool) (a : Expr) (lo hi : Option Expr) : Option (List Expr) := match l, lo, h, hi with
  | true, some x, true, some y => some [a, x, y]
  | true, some x, false, none => some [a, x]
  | false, none, true, some y => some [a, y]
  | false, none, false, none => some [a]
  | _, _, _, _ => none
def lamOk (kk : Kk) (params : Arguments) (body : Expr) (scope : Scope) : Bool := match params with
  | ⟨[], [⟨x, none, _⟩], none, [], [], none, []⟩ => decide (scope.kind = .function) && !scope.isCoroutine && !scope.isGenerator && scope.names.all (fun y => !decide (y.2 = .cell) && !decide (y.2 = .free)) && decide (scope.names.lookup x = some .local) && !(x == ("__debug__" : Str)) && lamIs kk x scope body && (decide (x = "stretch") || decide (x = "number"))
  | _ => false
def inOp (neg : Bool) : CmpOp := if neg = true then .NotIn else .In
def methOk (l : Expr) (apos : Pos) (es : List Expr) (cpos : Pos) : Bool := notSuper l && (apos.endLine == cpos.line) && noStars es && decide (es.length < 30)
def isCv (kc : Nat) : Option D → Bool
  | some (.cls k) => decide (k = kc)
  | _ => false
/-! calls with stars and keywords -/
def unst : Expr → Expr
  | .Starred e _ => e
  | e => e
def stOk : List Bool → List Expr → Bool
  | [], [] => true
  | b :: st, e :: es => (isStar e == b) && stOk st es
  | _, _ => false
def kwOk : List Str → List Keyword → Bool
  | [], [] => true
  | x :: ks, ⟨some y, _, _⟩ :: kws => decide (x = y) && kwOk ks kws
  | _, _ => false
def kwE (k : Keyword) : Expr := k.value
def kargs (es : List Expr) (kws : List Keyword) : List Expr := es.map unst ++ kws.map kwE
def kMeth (l : Expr) (apos : Pos) (es : List Expr) (kws : List Keyword) (cpos : Pos) : Bool := notSuper l && (apos.endLine == cpos.line) && noStars es && kwsNamed kws && decide (es.length + kws.length < 29)
def arIs (ar : Bool) (es : List Expr) : Bool := if ar = true then !es.isEmpty else es.isEmpty
def ckk (G : Gt) (S : Sx) (st : List Bool) (ks : List Str) : Ch → Expr → Option (List Expr)
  | .fn i, .Call (.Name x _) es kws _ => if decide (gvFn (G.gl.lookup x) = some i) && isGl S x && stOk st es && kwOk ks kws then some (kargs es kws) else none
  | .make _ kc i, .Call (.Name x _) es kws _ => if isCv kc (gvVal (G.gl.lookup x)) && decide (G.mks.lookup kc = some i) && isGl S x && stOk st es && kwOk ks kws then some (kargs es kws) else none
  | .own kc m i, .Call (.Attribute l name apos) es kws cpos => if decide (name = m) && decide (G.ms.lookup (kc, m) = some i) && kMeth l apos es kws cpos && stOk st es && kwOk ks kws then some (l :: kargs es kws) else none
  | .cmt kc m i, .Call (.Attribute l name apos) es kws cpos => if decide (name = m) && decide (G.cs.lookup (kc, m) = some i) && kMeth l apos es kws cpos && stOk st es && kwOk ks kws then some (l :: kargs es kws) else none
  | .mkv _ kc i, .Call (.Name x p) es kws _ => if decide (G.mks.lookup kc = some i) && stOk st es && kwOk ks kws then some (.Name x p :: kargs es kws) else none
  | _, _ => none
def ckx (G : Gt) (S : Sx) (b : Bool) (o : Xop) (e : Expr) : Option (List Expr) := match o, e with
  | .bin o, .BinOp l op r _ => if binOk o op then some [l, r] else none
  | .cmp o, .Compare l [op] [r] _ => if cmpOk o op && !behindInMarks op r then some [l, r] else none
  | .ix, .Subscript l i _ => if notSlice i then some [l, i] else none
  | .neg, .UnaryOp .USub a _ => some [a]
  | .tup, .Tuple es _ _ => if noStars es then some es else none
  | .lst _, .List es _ => if noStars es then some es else none
  | .bt o, .Call (.Name x _) (e :: es) [] _ => match btId o with
    | some (y, _, _) => if decide (x = y) && isGl S x && G.bl.contains x && noStars (e :: es) then some (e :: es) else none
    | none => none
  | .meth ty o, .Call (.Attribute l name apos) es [] cpos => match mtId ty o with
    | some (y, _, ar) => if decide (name = y) && notSuper l && (apos.endLine == cpos.line) && noStars es && arOk ar es then some (l :: es) else none
    | none => none
  | .fld f, .Attribute l f' _ => if decide (f = f') && notSuper l then some [l] else none
  | .call i, .Call (.Name x _) es [] _ => if decide (gvFn (G.gl.lookup x) = some i) && isGl S x && noStars es then some es else none
  | .own kc m i, .Call (.Attribute l name apos) es [] cpos => if decide (name = m) && decide (G.ms.lookup (kc, m) = some i) && methOk l apos es cpos then some (l :: es) else none
  | .cmt kc m i, .Call (.Attribute l name apos) es [] cpos => if decide (name = m) && decide (G.cs.lookup (kc, m) = some i) && methOk l apos es cpos then some (l :: es) else none
  | .make _ kc i, .Call (.Name x _) es [] _ => if isCv kc (gvVal (G.gl.lookup x)) && decide (G.mks.lookup kc = some i) && isGl S x && noStars es then some es else none
  | .mkv _ kc i, .Call (.Name x p) es [] _ => if decide (G.mks.lookup kc = some i) && noStars es then some (.Name x p :: es) else none
  | .slc _ l h, .Subscript a (.Slice lo hi none _) _ => slParts l h a lo hi
  | .srt _ kk, .Call (.Name x0 _) [a] [⟨some ky, .Lambda params body scope _, _⟩] _ => if decide (ky = "key") && decide (x0 = "sorted") && isGl S x0 && G.bl.contains x0 && G.bl.contains "abs" && !isStar a && G.lam.contains S.ql && lamOk kk params body scope then some [a] else none
  | .cval kc f d, .Attribute l f' _ => match G.cv.lookup (kc, f) with
    | some d' => if decide (f = f') && deq d' d && notSuper l then some [l] else none
    | none => none
  | .opk kc i, .BinOp l op r _ => if decide (G.ob.lookup (kc, PySem.dunder op.info.2) = some i) then some [l, r] else none
  | .inv kc i, .UnaryOp .Invert a _ => if decide (G.ou.lookup (kc, ("__invert__" : Str)) = some i) then some [a] else none
  | .ink neg kc i, .Compare l [op] [r] _ => if decide (op = inOp neg) && decide (G.ou.lookup (kc, ("__contains__" : Str)) = some i) && !behindInMarks op r then some [l, r] else none
  | .eqk neg kc i, .Compare l [op] [r] _ => if decide (op = eqOp neg) && decide (G.ou.lookup (kc, ("__eq__" : Str)) = some i) && G.dn.contains kc && !behindInMarks op r then some [l, r] else none
  | .eqa neg kc i, .Compare l [op] [r] _ => if decide (op = eqOp neg) && decide (G.ou.lookup (kc, ("__eq__" : Str)) = some i) && G.dn.contains kc && !behindInMarks op r then some [l, r] else none
  | .bok kc i, .Call (.Name x _) [a] [] _ => if decide (x = "bool") && isGl S x && G.bl.contains x && decide (G.ou.lookup (kc, ("__bool__" : Str)) = some i) && !isStar a then some [a] else none
  | .dct [], .Dict [] [] _ => some []
  | .sset _, .Call (.Name x _) [.Call (.Name y _) [a] [] _] [] _ => if decide (x = "sorted") && decide (y = "set") && isGl S x && isGl S y && G.bl.contains x && G.bl.contains y && !isStar a then some [a] else none
  | .lset, .Call (.Name x _) [.Call (.Name y _) [a] [] _] [] _ => if decide (x = "len") && decide (y = "set") && isGl S x && isGl S y && G.bl.contains x && G.bl.contains y && !isStar a then some [a] else none
  | .rpr, .Call (.Name x _) [a] [] _ => if decide (x = "repr") && isGl S x && G.bl.contains x && !isStar a then some [a] else none
  | .callo kc i, .Call (.Name x p) (e :: es) [] _ => if decide (G.ou.lookup (kc, ("__call__" : Str)) = some i) && noStars (e :: es) then some (.Name x p :: e :: es) else none
  | .dsp _ ks, .Dict keys vals _ => if keysE ks keys && decide (ks.length = vals.length) && !ks.isEmpty && decide (ks.length ≤ 15) then some vals else none
  | .dx, .Subscript l i _ => if notSlice i then some [l, i] else none
  | .din neg, .Compare l [op] [r] _ => if decide (op = inOp neg) && !behindInMarks op r then some [l, r] else none
  | .dqe neg, .Compare l [op] [r] _ => if decide (op = eqOp neg) && !behindInMarks op r then some [l, r] else none
  | .dcpy _, .Call (.Name x _) [a] [] _ => if decide (x = "dict") && isGl S x && G.bl.contains x && !isStar a then some [a] else none
  | .dlst _, .Call (.Name x _) [a] [] _ => if decide (x = "list") && isGl S x && G.bl.contains x && !isStar a then some [a] else none
  | .dpr _, .Call (.Name x _) [a] [] _ => if decide (x = "dict") && isGl S x && G.bl.contains x && !isStar a then some [a] else none
  | .rp _, .BinOp l op r _ => if decide (op = .Mult) then some [l, r] else none
  | .rvs _, .Subscript a (.Slice none none (some (.UnaryOp .USub (.Constant (.int 1) _ _) _)) _) _ => some [a]
  | .dct [q], .Dict [some (.Constant (.int i) _ _)] [.Constant (.int j) _ _] _ => if decide (q = (i, j)) then some [] else none
  | .kcall h st ks, e => ckk G S st ks h e
  | .bmx o, .Call (.Attribute l name apos) es [] cpos => if decide (name = o.id.2.1) && methOk l apos es cpos && arIs o.id.2.2.2 es then some (l :: es) else none
  | .dzp _, .Call (.Name x _) [.Call (.Name y _) [a, b] [] _] [] _ => if decide (x = "dict") && decide (y = "zip") && isGl S x && isGl S y && G.bl.contains x && G.bl.contains y && !isStar a && !isStar b then some [a, b] else none
  | _, _ => none
def locOk (S : Sx) (x : Str) : Bool := decide (S.sc.names.lookup x = some .local) || (S.df && decide (S.sc.names.lookup x = some .cell))
def tgNames (S : Sx) : List Nat → List Expr → Bool
  | [], [] => true
  | i :: is, .Name x _ :: es => decide (S.N[i]? = some x) && locOk S x && tgNames S is es
  | _, _ => false
def tgOk (S : Sx) : Tg → Expr → Bool
  | .one i, .Name x _ => decide (S.N[i]? = some x) && locOk S x
  | .many is, .Tuple es _ _ => tgNames S is es
  | _, _ => false
def blkOk (N : List Str) (sc scope : Scope) (own : List (Str × Nat)) : Bool :=
  decide (scope.kind = .function) && scope.names.all (fun y => decide (scope.names.lookup y.1 = some y.2)) && own.all (fun p => decide (N[p.2]? = some p.1))
  && scope.names.all (fun y => !decide (y.2 = .free) || decide (sc.names.lookup y.1 = some .cell) || decide (sc.names.lookup y.1 = some .free))
  && scope.names.all (fun y => !(decide (y.2 = .local) || decide (y.2 = .cell)) || (own.map (·.1)).contains y.1 || !N.contains y.1)
def isMany : Tg → Bool
  | .many _ => true
  | _ => false
def isYes : E → Bool
  | .yes => true
  | _ => false
/-- a call of a builtin by name: its arguments -/
def bcall (G : Gt) (S : Sx) (y : Str) : Expr → Option (List Expr)
  | .Call (.Name x _) xs [] _ => if decide (x = y) && isGl S x && G.bl.contains x && noStars xs then some xs else none
  | _ => none
mutual
def ck (G : Gt) (S : Sx) (b : Bool) : E → Expr → Bool
  | .no, _ => true
  | .yes, _ => false
  | .var i, e => match e with
    | .Name x _ => decide (S.N[i]? = some x) && isVis S x
    | _ => false
  | .con d, e => match e with
    | .Constant k _ _ => match conD k with
      | some d' => deq d' d
      | none => false
    | _ => false
  | .glb d, e => match e with
    | .Name x _ => isGl S x && match gvVal (G.gl.lookup x) with
      | some d' => deq d' d
      | none => false
    | _ => false
  | .bty n, e => match e with
    | .Name x _ => isGl S x && G.bl.contains x && decide (bootBuiltins x = some (.type n))
    | _ => false
  | .x o es, e => match ckx G S b o e with
    | some xs => cks G S es xs
    | none => false
  | .and_ x y, e => match e with
    | .BoolOp .And (a :: c :: rest) p => ck G S b x a && (match rest with
      | [] => ck G S b y c
      | _ => ck G S b y (.BoolOp .And (c :: rest) p))
    | _ => false
  | .or_ x y, e => match e with
    | .BoolOp .Or (a :: c :: rest) p => ck G S b x a && (match rest with
      | [] => ck G S b y c
      | _ => ck G S b y (.BoolOp .Or (c :: rest) p))
    | _ => false
  | .not_ x, e => match e with
    | .UnaryOp .Not a _ => ck G S b x a
    | _ => false
  | .ite t x y, e => match e with
    | .IfExp e a c _ => !b && ck G S true t e && ck G S false x a && ck G S false y c
    | _ => false
  | .chain o1 o2 x y z, e => match e with
    | .Compare l [p1, p2] [m, r] _ => cmpOk o1 p1 && cmpOk o2 p2 && !lastMarks [p1, p2] [m, r] && ck G S false x l && ck G S false y m && ck G S false z r
    | _ => false
  | .comp m i t own q e, e' => match e' with
    | .ListComp elt [⟨tg, iter, ifs, as⟩] scope _ => !b && decide (as = 0) && notSet iter && blkOk S.N S.sc scope own && t.slots.all (fun j => (own.map (·.2)).contains j)
      && cki G S i (isMany t) iter && tgOk ⟨S.N, relS scope S.sc, false, S.ql⟩ t tg
      && (match ifs with
        | [] => isYes q
        | [c] => ck G ⟨S.N, relS scope S.sc, false, S.ql⟩ true q c
        | _ => false)
      && ck G ⟨S.N, relS scope S.sc, false, S.ql⟩ false e elt
    | _ => false
def cks (G : Gt) (S : Sx) : Es → List Expr → Bool
  | .nil, xs => xs.isEmpty
  | .cons e es, xs => match xs with
    | x :: xs => ck G S false e x && cks G S es xs
    | _ => false
def cki (G : Gt) (S : Sx) : I → Bool → Expr → Bool
  | .seq e, _, x => ck G S false e x
  | .rng es, _, x => match bcall G S "range" x with
    | some xs => cks G S es xs
    | none => false
  | .enum es, tt, x => match bcall G S "enumerate" x with
    | some xs => tt && decide (xs.length = 1) && cks G S es xs
    | none => false
  | .zip es, tt, x => match bcall G S "zip" x with
    | some xs => tt && decide (xs.length = 2) && cks G S es xs
    | none => false
end
end Ir
end
section
set_option Elab.async false
set_option linter.all false
set_option maxRecDepth 100000
namespace Ir
open PySem PySem.Spec PyProof.Rows L2

theorem deq_eq' {d e : D} (h : deq d e = true) : d = e := deq_eq d e h
theorem plainName_ok {x : Str} (h : plainName x = true) : x ≠ "__name__" ∧ (x == ("__debug__" : Str)) = false ∧ (x == ("__classdict__" : Str)) = false := by
  simp only [plainName, Bool.and_eq_true, Bool.not_eq_true', decide_eq_false_iff_not] at h
  exact ⟨h.1.1, h.1.2, h.2⟩

/-! ### what a context gives -/
section
variable {cl : Nat → Addr} {xn : Xn}
/-- the world's facts, for calls that have room -/
structure GOk (G : Gt) (M : Gm) (cl : Nat → Addr) (xn : Xn) (k : Nat) (X : Cx) : Prop where
  at_ : ∃ ad : Nat → Addr, (∀ i, FnR X.prog X.w X.K X.mg X.base (L2.CX X.prog X.w) (k + 1) (ad i) (spR (cx X cl xn) (posM G M.raw i))) ∧ (∀ i, FnR X.prog X.w X.K X.mg X.base (L2.CX X.prog X.w) k (ad i) (spR (cx X cl xn) (posM G M.low i))) ∧
    (∀ x i, gvFn (G.gl.lookup x) = some i → X.mg x = some (.ref (ad i)) ∧ PySem.W.keepIn X.K (.ref (ad i)) = true) ∧
    (∀ kc m i, G.ms.lookup (kc, m) = some i → Cls X.K (cl kc) ∧ Meth X.K (cl kc) m (ad i)) ∧
    (∀ kc m i, G.cs.lookup (kc, m) = some i → ∃ mc p, ClX.CRead X.K (cl kc) mc ∧ ClX.CMet X.K (cl kc) mc m p (ad i)) ∧
    (∀ kc i, G.mks.lookup kc = some i → Mk X.K (cl kc) (ad i)) ∧
    (∀ kc m i, G.ob.lookup (kc, m) = some i → OpK X.K (cl kc) m (ad i)) ∧
    (∀ kc m i, G.ou.lookup (kc, m) = some i → UnK X.K (cl kc) m (ad i)) ∧
    (∀ i ks, FnK X.prog X.w X.K X.mg X.base (L2.CX X.prog X.w) (k + 1) (ad i) ks (spK (cx X cl xn) (posK G M.raw i ks))) ∧ (∀ i ks, FnK X.prog X.w X.K X.mg X.base (L2.CX X.prog X.w) k (ad i) ks (spK (cx X cl xn) (posK G M.low i ks)))
  cv : ∀ kc f d, G.cv.lookup (kc, f) = some d → ∃ mc v u, ClX.CRead X.K (cl kc) mc ∧ ClX.CVal X.K (cl kc) mc f v u ∧ ∀ w, rv (cx X cl xn) w d v
  vl : ∀ x d, gvVal (G.gl.lookup x) = some d → ∃ u v, X.mg x = some u ∧ RelV v u ∧ ∀ w, rv (cx X cl xn) w d v
  bl : ∀ x, G.bl.contains x = true → X.mg x = none
  F : Ff (cx X cl xn) G.F
  T : Kf (cx X cl xn) G.T
  rm : Room (k + 1) X.A
  dn : ∀ kc, G.dn.contains kc = true → NeD X.K (cl kc)
  lm : G.lam.contains X.env.qual = true → ∃ cd P, LamAt X xn cd P ∧ X.env.code = .ref cd
structure XOk (S : Sx) (X : Cx) (W : WX) : Prop where
  N : X.N = S.N
  sc : X.env.scope = S.sc
  nd : X.N.Nodup
  calm : X.calm = true
  df : S.df = true → ∀ x, X.fn x = true
  ql : X.env.qual = S.ql
  tk : Takes X W
variable {X : Cx} {G : Gt} {M : Gm} {S : Sx} {W : WX} {k : Nat} {a b e l : Expr} {es : List Expr}
theorem XOk.gl (H : XOk S X W) {x : Str} (h : isGl S x = true) : Gl X x ∧ x ≠ "__name__" ∧ (x == ("__debug__" : Str)) = false := by
  simp only [isGl, Bool.and_eq_true, decide_eq_true_eq] at h
  obtain ⟨h2, h3, _⟩ := plainName_ok h.2
  exact ⟨by unfold Gl Env.kindOf; rw [H.sc]; exact h.1, h2, h3⟩
theorem XOk.vis (H : XOk S X W) {x : Str} (h : isVis S x = true) : Vis X.env.scope x ∧ (x == ("__debug__" : Str)) = false ∧ (x == ("__classdict__" : Str)) = false := by
  simp only [isVis, Bool.and_eq_true, Bool.or_eq_true, decide_eq_true_eq] at h
  obtain ⟨_, h3, h4⟩ := plainName_ok h.2
  refine ⟨?_, h3, h4⟩
  unfold Vis
  rw [H.sc]
  rcases h.1 with (h | h) | h
  · exact .inl h
  · exact .inr (.inl h)
  · exact .inr (.inr h)
theorem XOk.loc (H : XOk S X W) {x : Str} (h : locOk S x = true) : L2.Loc X.env.scope x ∧ (X.fn x = true ∨ X.env.scope.names.lookup x = some .local) := by
  simp only [locOk, Bool.or_eq_true, Bool.and_eq_true, decide_eq_true_eq] at h
  unfold L2.Loc
  rw [H.sc]
  rcases h with h | ⟨h1, h2⟩
  · exact ⟨.inl h, .inr h⟩
  · exact ⟨.inr h2, .inl (H.df h1 x)⟩
theorem bt_ok (hc : X.calm = true) (hT : Kf (cx X cl xn) G.T) {o : On} {y : Str} {ty : Bool} {id : String} (h : btId o = some (y, ty, id)) :
    if ty = true then CallR X (.type id) (rn (cx X cl xn) G.T o) ∧ bootBuiltins y = some (.type id) else CallR X (.builtin id) (rn (cx X cl xn) G.T o) ∧ bootBuiltins y = some (.builtin id) := by
  cases o <;> simp only [btId, Option.some.injEq, Prod.mk.injEq, reduceCtorEq] at h <;> obtain ⟨rfl, rfl, rfl⟩ := h
  · exact ⟨n_len, rfl⟩
  · exact ⟨n_abs, rfl⟩
  · exact ⟨n_int, rfl⟩
  · exact ⟨n_bool, rfl⟩
  · exact ⟨n_list, rfl⟩
  · exact ⟨n_tuple, rfl⟩
  · exact ⟨n_any hc, rfl⟩
  · exact ⟨n_all hc, rfl⟩
  · exact ⟨n_max hc, rfl⟩
  · exact ⟨n_min hc, rfl⟩
  · exact ⟨n_max2 hc, rfl⟩
  · exact ⟨n_min2 hc, rfl⟩
  · exact ⟨n_isi hT, rfl⟩
theorem mt_ok {T : Tab} {ty : String} {o : On} {y : Str} {id : String} {ar : Bool} (h : mtId ty o = some (y, id, ar)) : PlainAttrs ty ∧ Slot ty y id ∧ typeOf (.builtin id) = pure (.type "method_descriptor") ∧ MtR X id (fun x xs H Q => rn (cx X cl xn) T o (x :: xs) H Q) := by
  unfold mtId at h
  split at h <;> simp only [Option.some.injEq, Prod.mk.injEq, reduceCtorEq] at h <;> obtain ⟨rfl, rfl, rfl⟩ := h
  · exact ⟨F.plainAttrs_list, slot_list_append, rfl, m_append⟩
  · exact ⟨F.plainAttrs_list, F.slot_list_pop, rfl, m_pop⟩
  · exact ⟨F.plainAttrs_list, F.slot_list_pop, rfl, m_popAt⟩
  · exact ⟨F.plainAttrs_list, F.slot_list_extend, rfl, m_extend⟩
theorem bin_ok {o : O2} {op : Operator} (h : binOk o op = true) : OpR X (binaryOp op) (r2 (cx X cl xn) o) := by
  cases o <;> cases op <;> first | (cases h; done) | exact o2_add | exact o2_sub | exact o2_mul | exact o2_fdiv | exact o2_mod | exact o2_pow
theorem cmp_ok (hu : X.A.units + 65 < cLine) {o : O2} {op : CmpOp} (h : cmpOk o op = true) : OpR X (compareOp op) (r2 (cx X cl xn) o) := by
  cases o <;> cases op <;> first | (cases h; done) | exact o2_eq (by omega) | exact o2_ne (by omega) | exact o2_lt | exact o2_le | exact o2_gt | exact o2_ge | exact o2_isn | exact o2_notn | exact o2_isb | exact o2_notb | exact o2_in hu | exact o2_notin hu
theorem All2.pa {c : Rc} {fs : List Fe} (h : All2 X c W fs es) : noStars es = true → PA X es (rda c W (seqFs fs)) := by
  induction h with
  | nil => exact fun _ => x_nil
  | cons h t ih => exact fun hn => x_cons h (ih (noStars_cons hn).2) (star_one (noStars_cons hn).1)
theorem PE_no {c : Rc} : PE X e (rd c W noE) := ⟨fun _ _ _ _ _ _ ⟨_, _, _, _, _, _, hp⟩ => hp.elim⟩
theorem PT_no {c : Rc} : PT X e (rdt c W fun _ _ => .bad) := ⟨fun _ _ _ _ _ _ ⟨_, _, _, _, _, _, hp⟩ => hp.elim⟩
theorem all2_2 {c : Rc} {fs : List Fe} {a b : Expr} (h : All2 X c W fs [a, b]) : ∃ f g, fs = [f, g] ∧ PE X a (rd c W f) ∧ PE X b (rd c W g) := by
  cases h with | cons h t => cases t with | cons h2 t => cases t; exact ⟨_, _, rfl, h, h2⟩
theorem all2_0 {c : Rc} {fs : List Fe} (h : All2 X c W fs []) : fs = [] := by
  cases h
  rfl
theorem all2_1 {c : Rc} {fs : List Fe} {a : Expr} (h : All2 X c W fs [a]) : ∃ f, fs = [f] ∧ PE X a (rd c W f) := by
  cases h with | cons h t => cases t; exact ⟨_, rfl, h⟩
theorem all2_c {c : Rc} {fs : List Fe} {a : Expr} (h : All2 X c W fs (a :: es)) : ∃ f fr, fs = f :: fr ∧ PE X a (rd c W f) ∧ All2 X c W fr es := by
  cases h with | cons h t => exact ⟨_, _, rfl, h, t⟩
theorem methOk_ok {l : Expr} {apos cpos : Pos} (h : methOk l apos es cpos = true) : notSuper l = true ∧ (apos.endLine == cpos.line) = true ∧ noStars es = true ∧ es.length < 30 := by
  simp only [methOk, Bool.and_eq_true, decide_eq_true_eq] at h
  exact ⟨h.1.1.1, h.1.1.2, h.1.2, h.2⟩
theorem cv_at (K : GOk G M cl xn k X) {x : Str} {kc : Nat} (h : isCv kc (gvVal (G.gl.lookup x)) = true) : X.mg x = some (.ref (cl kc)) := by
  unfold isCv at h
  split at h
  · rename_i k' hk
    simp only [decide_eq_true_eq] at h
    subst h
    obtain ⟨u, v, m1, m2, m3⟩ := K.vl _ _ hk
    have q := m3 ⟨fun _ => 0, 0, fun _ => False, fun _ => none⟩
    simp only [rv] at q
    subst q
    rw [m1]
    exact congrArg some m2
  · cases h
theorem ink_go (H : XOk S X W) (K : GOk G M cl xn k X) {neg : Bool} {kc i : Nat} (h : G.ou.lookup (kc, ("__contains__" : Str)) = some i) : CmpRun X (cx X cl xn) W (inOp neg) (inKR neg kc (posM G M.raw i)) := by
  obtain ⟨ad, G1, G2, G3, G4, G5, G6, G7, G8, GK, GL⟩ := K.at_
  exact fun I2 r2 q1 q2 rx ry p2 => inK_run rfl rfl H.tk (G8 _ _ _ h) (G1 _) K.rm I2 r2 q1 q2 rx ry p2
theorem eqk_go (H : XOk S X W) (K : GOk G M cl xn k X) {neg : Bool} {kc i : Nat} (h : G.ou.lookup (kc, ("__eq__" : Str)) = some i) (hd : G.dn.contains kc = true) : CmpRun X (cx X cl xn) W (eqOp neg) (eqKR neg kc (posM G M.low i)) := by
  obtain ⟨ad, G1, G2, G3, G4, G5, G6, G7, G8, GK, GL⟩ := K.at_
  exact eqK_run rfl rfl H.tk (G8 _ _ _ h) (K.dn _ hd) (G2 _) K.rm
theorem eqa_go (H : XOk S X W) (K : GOk G M cl xn k X) {neg : Bool} {kc i : Nat} (h : G.ou.lookup (kc, ("__eq__" : Str)) = some i) (hd : G.dn.contains kc = true) : CmpRun X (cx X cl xn) W (eqOp neg) (eqAR neg kc (posM G M.low i)) := by
  obtain ⟨ad, G1, G2, G3, G4, G5, G6, G7, G8, GK, GL⟩ := K.at_
  exact eqA_run rfl rfl H.tk (G8 _ _ _ h) (K.dn _ hd) (G2 _) K.rm
theorem din_ok {c : Rc} {neg : Bool} {fa fb : Fe} {pos : Pos} (hu : X.A.units + 1 < cLine) (ha : PE X a (rd c W fa)) (hb : PE X b (rd c W fb)) (hm : behindInMarks (inOp neg) b = false) : PE X (.Compare a [inOp neg] [b] pos) (rd c W (mDin neg fa fb)) ∧ PT X (.Compare a [inOp neg] [b] pos) (rdt c W (tCmpB (mDin neg fa fb))) := by
  have tb : ∀ σ H Q, rdt c W (tCmpB (mDin neg fa fb)) σ H Q → tB (rd c W (mDin neg fa fb)) σ H Q := fun σ H Q ⟨w, env, s, hw, hs, he, hp⟩ => by
    subst hw
    refine ⟨w, env, s, rfl, hs, he, (post_bindt hp).mono fun x H1 ⟨w1, d, s1, e1, x1, r1, q1, p1⟩ => ?_⟩
    subst e1
    cases d <;> try exact p1.elim
    simp only [rv] at q1
    exact ⟨_, q1, p1 w1 (.refl w1) r1⟩
  cases neg
  · exact ⟨pe_cmp (c_din hu ha hb) hm, (pt_cmp (c_din hu ha hb) hm).imp tb⟩
  · exact ⟨pe_cmp (c_dnin hu ha hb) hm, (pt_cmp (c_dnin hu ha hb) hm).imp tb⟩
theorem dqe_ok {neg : Bool} (hu : X.A.units < cLine) : OpR X (compareOp (eqOp neg)) (r2g (cx X cl xn) (apDeq neg)) := by
  cases neg
  · exact o_deq rfl hu
  · exact o_dne rfl hu
theorem kargs_ok {c : Rc} {st : List Bool} {ks : List Str} : ∀ {es : List Expr} {kws : List Keyword} {fs : List Fe}, stOk st es = true → kwOk ks kws = true → All2 X c W fs (kargs es kws) → Spr X c W st (fs.take st.length) es ∧ Kws X c W ks (fs.drop st.length) kws := by
  have hk : ∀ {ks : List Str} {kws : List Keyword} {fs : List Fe}, kwOk ks kws = true → All2 X c W fs (kws.map kwE) → Kws X c W ks fs kws := fun {ks} => by
    induction ks with
    | nil =>
      intro kws fs h a
      cases kws with
      | nil => cases a; exact .nil
      | cons _ _ => simp [kwOk] at h
    | cons x ks ih =>
      intro kws fs h a
      cases kws with
      | nil => simp [kwOk] at h
      | cons q kws =>
        obtain ⟨nm, e, p⟩ := q
        cases nm with
        | none => simp [kwOk] at h
        | some y =>
          simp only [kwOk, Bool.and_eq_true, decide_eq_true_eq] at h
          obtain ⟨rfl, h⟩ := h
          obtain ⟨f, fr, rfl, p1, p2⟩ := all2_c a
          exact .cons p1 (ih h p2)
  induction st with
  | nil =>
    intro es kws fs h h2 a
    cases es with
    | nil => exact ⟨.nil, hk h2 a⟩
    | cons _ _ => simp [stOk] at h
  | cons b st ih =>
    intro es kws fs h h2 a
    cases es with
    | nil => simp [stOk] at h
    | cons e es =>
      simp only [stOk, Bool.and_eq_true, beq_iff_eq] at h
      obtain ⟨rfl, h⟩ := h
      obtain ⟨f, fr, rfl, p1, p2⟩ := all2_c a
      obtain ⟨i1, i2⟩ := ih h h2 p2
      refine ⟨?_, i2⟩
      cases hs : isStar e with
      | false =>
        have : unst e = e := by cases e <;> first | rfl | cases hs
        rw [this] at p1
        exact .one p1 hs i1
      | true =>
        cases e <;> first | (cases hs; done) | exact .str p1 i1
theorem kMeth_ok {l : Expr} {apos cpos : Pos} {kws : List Keyword} (h : kMeth l apos es kws cpos = true) : notSuper l = true ∧ (apos.endLine == cpos.line) = true ∧ noStars es = true ∧ kwsNamed kws = true ∧ es.length + kws.length < 29 := by
  simp only [kMeth, Bool.and_eq_true, decide_eq_true_eq] at h
  exact ⟨h.1.1.1.1, h.1.1.1.2, h.1.1.2, h.1.2, h.2⟩
theorem ckk_ok (H : XOk S X W) (K : GOk G M cl xn k X) {st : List Bool} {ks : List Str} {hd : Ch} {xs : List Expr} {fs : List Fe} (h : ckk G S st ks hd e = some xs) (hx : All2 X (cx X cl xn) W fs xs) : PE X e (rd (cx X cl xn) W (mKc G M st ks hd fs)) := by
  obtain ⟨ad, G1, G2, G3, G4, G5, G6, G7, G8, GK, GL⟩ := K.at_
  unfold ckk at h
  split at h
  · split at h <;> cases h
    rename_i hh
    simp only [Bool.and_eq_true, decide_eq_true_eq] at hh
    obtain ⟨⟨⟨h1, h2⟩, h3⟩, h4⟩ := hh
    obtain ⟨m1, m2⟩ := G3 _ _ h1
    obtain ⟨g1, g2, g3⟩ := H.gl h2
    obtain ⟨p1, p2⟩ := kargs_ok h3 h4 hx
    exact xk_cal rfl H.tk (GK _ _) K.rm g1 m1 m2 p1 p2 g3
  · split at h <;> cases h
    rename_i hh
    simp only [Bool.and_eq_true, decide_eq_true_eq] at hh
    obtain ⟨⟨⟨⟨h1, h2⟩, h3⟩, h4⟩, h5⟩ := hh
    obtain ⟨g1, g2, g3⟩ := H.gl h3
    obtain ⟨p1, p2⟩ := kargs_ok h4 h5 hx
    exact xk_make rfl H.tk (G6 _ _ h2) (GL _ _) K.rm g1 (cv_at K h1) p1 p2 g3
  · split at h <;> cases h
    rename_i hh
    simp only [Bool.and_eq_true, decide_eq_true_eq] at hh
    obtain ⟨⟨⟨⟨rfl, h2⟩, h3⟩, h4⟩, h5⟩ := hh
    obtain ⟨b1, b2, b3, b4, b5⟩ := kMeth_ok h3
    obtain ⟨m1, m2⟩ := G4 _ _ _ h2
    obtain ⟨f, fr, rfl, q1, q2⟩ := all2_c hx
    obtain ⟨p1, p2⟩ := kargs_ok h4 h5 q2
    exact xk_mth rfl H.tk m1 m2 (GK _ _) K.rm q1 p1 p2 b1 b2 b3 b4 b5
  · split at h <;> cases h
    rename_i hh
    simp only [Bool.and_eq_true, decide_eq_true_eq] at hh
    obtain ⟨⟨⟨⟨rfl, h2⟩, h3⟩, h4⟩, h5⟩ := hh
    obtain ⟨b1, b2, b3, b4, b5⟩ := kMeth_ok h3
    obtain ⟨mc, p, m1, m2⟩ := G5 _ _ _ h2
    obtain ⟨f, fr, rfl, q1, q2⟩ := all2_c hx
    obtain ⟨p1, p2⟩ := kargs_ok h4 h5 q2
    exact xk_cmt rfl H.tk m1 m2 (GK _ _) K.rm q1 p1 p2 b1 b2 b3 b4 b5
  · split at h <;> cases h
    rename_i hh
    simp only [Bool.and_eq_true, decide_eq_true_eq] at hh
    obtain ⟨⟨h2, h4⟩, h5⟩ := hh
    obtain ⟨f, fr, rfl, q1, q2⟩ := all2_c hx
    obtain ⟨p1, p2⟩ := kargs_ok h4 h5 q2
    exact xk_mkv rfl H.tk (G6 _ _ h2) (GL _ _) K.rm q1 p1 p2 rfl
  · cases h
theorem ckk_call {st : List Bool} {ks : List Str} {hd : Ch} {xs : List Expr} (h : ckk G S st ks hd e = some xs) : plainT e = true := by
  unfold ckk at h
  split at h <;> first | rfl | cases h
theorem ckx_ok (H : XOk S X W) (K : GOk G M cl xn k X) {tb : Bool} {o : Xop} {xs : List Expr} {fs : List Fe} (h : ckx G S tb o e = some xs) (hx : All2 X (cx X cl xn) W fs xs) :
    PE X e (rd (cx X cl xn) W (evx G M o fs)) ∧ PT X e (rdt (cx X cl xn) W (evxt o (evx G M o fs))) := by
  have hu : X.A.units + 65 < cLine := by have := K.rm.un; omega
  obtain ⟨ad, G1, G2, G3, G4, G5, G6, G7, G8, GK, GL⟩ := K.at_
  have val : ∀ {f : Fe}, plainT e = true → PE X e (rd (cx X cl xn) W f) → PE X e (rd (cx X cl xn) W f) ∧ PT X e (rdt (cx X cl xn) W (tVal f)) := fun hp h => ⟨h, y_val rfl h fun w => true_plain hp w⟩
  unfold ckx at h
  split at h
  · split at h <;> cases h
    obtain ⟨f, g, rfl, h1, h2⟩ := all2_2 hx
    exact val rfl (x_op2 (bin_ok (by assumption)) h1 h2)
  · split at h <;> cases h
    rename_i hh
    simp only [Bool.and_eq_true, Bool.not_eq_true'] at hh
    obtain ⟨f, g, rfl, h1, h2⟩ := all2_2 hx
    exact ⟨x_cmp (cmp_ok hu hh.1) h1 h2 hh.2, y_cmp (cmp_ok hu hh.1) h1 h2 hh.2⟩
  · split at h <;> cases h
    obtain ⟨f, g, rfl, h1, h2⟩ := all2_2 hx
    exact val rfl (x_ix h1 h2 (ix_plain (by assumption)))
  · cases h
    obtain ⟨f, rfl, h1⟩ := all2_1 hx
    exact val rfl (x_neg h1)
  · split at h <;> cases h
    exact val rfl (x_tup (hx.pa (by assumption)))
  · split at h <;> cases h
    exact val rfl (x_lst (hx.pa (by assumption)))
  · split at h
    · rename_i y ty id hb
      split at h <;> cases h
      rename_i hh
      simp only [Bool.and_eq_true, decide_eq_true_eq] at hh
      obtain ⟨⟨⟨rfl, h2⟩, h3⟩, h4⟩ := hh
      obtain ⟨g1, g2, g3⟩ := H.gl h2
      have q := bt_ok H.calm K.T hb
      obtain ⟨n1, n2⟩ := noStars_cons h4
      split at q
      · exact val rfl (x_bty q.1 g1 (K.bl _ h3) q.2 (hx.pa h4) g2 g3 (star_one n1) (star_any n2))
      · exact val rfl (x_blt q.1 g1 (K.bl _ h3) q.2 (hx.pa h4) g2 g3 (star_one n1) (star_any n2))
    · cases h
  · split at h
    · rename_i y id ar hb
      split at h
      · rename_i hh
        cases h
        simp only [Bool.and_eq_true, decide_eq_true_eq] at hh
        obtain ⟨⟨⟨⟨rfl, h2⟩, h3⟩, h4⟩, h5⟩ := hh
        obtain ⟨f, fr, rfl, p1, p2⟩ := all2_c hx
        obtain ⟨m1, m2, m3, m4⟩ := mt_ok (X := X) (cl := cl) (xn := xn) (T := G.T) hb
        cases p2 with
        | nil =>
          exact val rfl (x_bm0 rfl m1 m2 m3 m4 p1 (base_plain h2 _) h3)
        | @cons f1 e1 fs1 es1 a b =>
          obtain ⟨n1, n2⟩ := noStars_cons h4
          have hl : (e1 :: es1).length < 30 := by
            unfold arOk at h5
            split at h5
            · simp only [Bool.and_eq_true, decide_eq_true_eq] at h5
              exact h5.2
            · cases h5
          refine val rfl (x_bm rfl m1 m2 m3 m4 p1 ((All2.cons a b).pa h4) (base_plain h2 _) ?_ h3 (star_one n1) (star_any n2))
          rw [star_all h4]
          simpa [backToKw, keywordEach] using hl
      · cases h
    · cases h
  · split at h <;> cases h
    rename_i hh
    simp only [Bool.and_eq_true, decide_eq_true_eq] at hh
    obtain ⟨rfl, h2⟩ := hh
    obtain ⟨f, rfl, h1⟩ := all2_1 hx
    exact val rfl (x_fld rfl K.F h1 (base_plain h2 _))
  · split at h <;> cases h
    rename_i hh
    simp only [Bool.and_eq_true, decide_eq_true_eq] at hh
    obtain ⟨⟨h1, h2⟩, h3⟩ := hh
    obtain ⟨m1, m2⟩ := G3 _ _ h1
    obtain ⟨g1, g2, g3⟩ := H.gl h2
    exact val rfl (x_cal H.tk (G1 _) K.rm g1 m1 m2 (hx.pa h3) g3 h3)
  · split at h <;> cases h
    rename_i hh
    simp only [Bool.and_eq_true, decide_eq_true_eq] at hh
    obtain ⟨⟨rfl, h2⟩, h3⟩ := hh
    obtain ⟨b1, b2, b3, b4⟩ := methOk_ok h3
    obtain ⟨m1, m2⟩ := G4 _ _ _ h2
    obtain ⟨f, fr, rfl, p1, p2⟩ := all2_c hx
    exact val rfl (x_mth rfl H.tk m1 m2 (G1 _) K.rm p1 (p2.pa b3) b1 b2 b3 b4)
  · split at h <;> cases h
    rename_i hh
    simp only [Bool.and_eq_true, decide_eq_true_eq] at hh
    obtain ⟨⟨rfl, h2⟩, h3⟩ := hh
    obtain ⟨b1, b2, b3, b4⟩ := methOk_ok h3
    obtain ⟨mc, p, m1, m2⟩ := G5 _ _ _ h2
    obtain ⟨f, fr, rfl, p1, p2⟩ := all2_c hx
    exact val rfl (x_cmt rfl H.tk m1 m2 (G1 _) K.rm p1 (p2.pa b3) b1 b2 b3 b4)
  · split at h <;> cases h
    rename_i hh
    simp only [Bool.and_eq_true, decide_eq_true_eq] at hh
    obtain ⟨⟨⟨h1, h2⟩, h3⟩, h4⟩ := hh
    obtain ⟨g1, g2, g3⟩ := H.gl h3
    exact val rfl (x_make H.tk (G6 _ _ h2) (G2 _) K.rm g1 (cv_at K h1) (hx.pa h4) g3 h4)
  · split at h <;> cases h
    rename_i hh
    simp only [Bool.and_eq_true, decide_eq_true_eq] at hh
    obtain ⟨f, fr, rfl, p1, p2⟩ := all2_c hx
    exact val rfl (x_mkv H.tk (G6 _ _ hh.1) (G2 _) K.rm p1 (p2.pa hh.2) hh.2 rfl)
  · unfold slParts at h
    split at h <;> cases h
    · obtain ⟨f, fr, rfl, h1, hr⟩ := all2_c hx
      obtain ⟨g, k, rfl, h2, h3⟩ := all2_2 hr
      exact val rfl (x_sl h1 (.yes h2) (.yes h3))
    · obtain ⟨f, g, rfl, h1, h2⟩ := all2_2 hx
      exact val rfl (x_sl h1 (.yes h2) .no)
    · obtain ⟨f, g, rfl, h1, h2⟩ := all2_2 hx
      exact val rfl (x_sl h1 .no (.yes h2))
    · obtain ⟨f, rfl, h1⟩ := all2_1 hx
      exact val rfl (x_sl h1 .no .no)
  · split at h <;> cases h
    rename_i hh
    simp only [Bool.and_eq_true, decide_eq_true_eq, Bool.not_eq_true'] at hh
    obtain ⟨⟨⟨⟨⟨⟨⟨rfl, rfl⟩, h3⟩, h4⟩, h5⟩, h6⟩, h7⟩, h8⟩ := hh
    obtain ⟨f, rfl, h1⟩ := all2_1 hx
    obtain ⟨g1, g2, g3⟩ := H.gl h3
    rw [← H.ql] at h7
    obtain ⟨cd, P, L, hcd⟩ := K.lm h7
    unfold lamOk at h8
    split at h8
    · simp only [Bool.and_eq_true, decide_eq_true_eq, Bool.not_eq_true', List.all_eq_true, decide_eq_false_iff_not] at h8
      obtain ⟨⟨⟨⟨⟨⟨⟨q1, q2⟩, q3⟩, q4⟩, q5⟩, q6⟩, q7⟩, q8⟩ := h8
      simp only [Bool.or_eq_true, decide_eq_true_eq] at q8
      exact val rfl (x_sort (k := k) rfl (by omega) (by have := K.rm.dp; omega) g1 (K.bl _ h4) rfl g2 g3 (fun _ => K.bl _ h5) L hcd rfl (fun _ _ _ _ _ => by rcases q8 with rfl | rfl <;> rfl) q1 q2 q3 q4 q5 q6 q7 h1 h6)
    · cases h8
  · split at h
    · rename_i d' hd
      split at h <;> cases h
      rename_i hh
      simp only [Bool.and_eq_true, decide_eq_true_eq] at hh
      obtain ⟨⟨rfl, h2⟩, h3⟩ := hh
      have := deq_eq' h2
      subst this
      obtain ⟨f, rfl, h1⟩ := all2_1 hx
      obtain ⟨mc, v, u, c1, c2, c3⟩ := K.cv _ _ _ hd
      exact val rfl (x_cval rfl c1 c2 c3 h1 h3)
    · cases h
  · split at h <;> cases h
    rename_i hh
    simp only [decide_eq_true_eq] at hh
    obtain ⟨f, g, rfl, h1, h2⟩ := all2_2 hx
    exact val rfl (x_opK rfl H.tk (G7 _ _ _ hh) (G1 _) K.rm h1 h2)
  · split at h <;> cases h
    rename_i hh
    simp only [decide_eq_true_eq] at hh
    obtain ⟨f, rfl, h1⟩ := all2_1 hx
    exact val rfl (x_inv rfl H.tk (G8 _ _ _ hh) (G1 _) K.rm h1)
  · split at h <;> cases h
    rename_i hh
    simp only [Bool.and_eq_true, decide_eq_true_eq, Bool.not_eq_true'] at hh
    obtain ⟨⟨rfl, h2⟩, h3⟩ := hh
    obtain ⟨f, g, rfl, h1, h4⟩ := all2_2 hx
    exact ⟨x_cmpRun (ink_go H K h2) h1 h4 h3, y_cmpRun (ink_go H K h2) h1 h4 h3⟩
  · split at h <;> cases h
    rename_i hh
    simp only [Bool.and_eq_true, decide_eq_true_eq, Bool.not_eq_true'] at hh
    obtain ⟨⟨⟨rfl, h2⟩, h5⟩, h3⟩ := hh
    obtain ⟨f, g, rfl, h1, h4⟩ := all2_2 hx
    exact ⟨x_cmpRun (eqk_go H K h2 h5) h1 h4 h3, y_cmpRun (eqk_go H K h2 h5) h1 h4 h3⟩
  · split at h <;> cases h
    rename_i hh
    simp only [Bool.and_eq_true, decide_eq_true_eq, Bool.not_eq_true'] at hh
    obtain ⟨⟨⟨rfl, h2⟩, h5⟩, h3⟩ := hh
    obtain ⟨f, g, rfl, h1, h4⟩ := all2_2 hx
    exact ⟨x_cmpRun (eqa_go H K h2 h5) h1 h4 h3, y_cmpRun (eqa_go H K h2 h5) h1 h4 h3⟩
  · split at h <;> cases h
    rename_i hh
    simp only [Bool.and_eq_true, decide_eq_true_eq, Bool.not_eq_true'] at hh
    obtain ⟨⟨⟨⟨rfl, h2⟩, h3⟩, h4⟩, h5⟩ := hh
    obtain ⟨f, rfl, h1⟩ := all2_1 hx
    obtain ⟨g1, g2, g3⟩ := H.gl h2
    exact val rfl (x_bok H.tk rfl (G8 _ _ _ h4) (G2 _) K.rm g1 (K.bl _ h3) rfl g2 g3 h1 (star_one h5))
  · cases h
    have e0 := all2_0 hx
    subst e0
    exact val rfl x_d0
  · split at h <;> cases h
    rename_i hh
    simp only [Bool.and_eq_true, decide_eq_true_eq, Bool.not_eq_true'] at hh
    obtain ⟨⟨⟨⟨⟨⟨rfl, rfl⟩, h3⟩, h4⟩, h5⟩, h6⟩, h7⟩ := hh
    obtain ⟨f, rfl, h1⟩ := all2_1 hx
    exact val rfl (x_sset rfl H.calm (H.gl h3).1 (K.bl _ h5) (H.gl h4).1 (K.bl _ h6) h1 (star_one h7))
  · split at h <;> cases h
    rename_i hh
    simp only [Bool.and_eq_true, decide_eq_true_eq, Bool.not_eq_true'] at hh
    obtain ⟨⟨⟨⟨⟨⟨rfl, rfl⟩, h3⟩, h4⟩, h5⟩, h6⟩, h7⟩ := hh
    obtain ⟨f, rfl, h1⟩ := all2_1 hx
    exact val rfl (x_lset rfl H.calm (H.gl h3).1 (K.bl _ h5) (H.gl h4).1 (K.bl _ h6) h1 (star_one h7))
  · split at h <;> cases h
    rename_i hh
    simp only [Bool.and_eq_true, decide_eq_true_eq, Bool.not_eq_true'] at hh
    obtain ⟨⟨⟨rfl, h3⟩, h4⟩, h5⟩ := hh
    obtain ⟨f, rfl, h1⟩ := all2_1 hx
    exact val rfl (x_repr rfl (H.gl h3).1 (K.bl _ h4) K.rm h1 (star_one h5))
  · split at h <;> cases h
    rename_i hh
    simp only [Bool.and_eq_true, decide_eq_true_eq] at hh
    obtain ⟨f, fr, rfl, p1, p2⟩ := all2_c hx
    have O := G8 _ _ _ hh.1
    exact val rfl (x_callO rfl H.tk ⟨O.at_, O.fn, O.fi⟩ (G1 _) K.rm p1 (p2.pa hh.2) hh.2 rfl)
  · split at h <;> cases h
    rename_i hh
    simp only [Bool.and_eq_true, decide_eq_true_eq, Bool.not_eq_true'] at hh
    obtain ⟨⟨⟨h2, h3⟩, h4⟩, h5⟩ := hh
    exact val rfl (x_dsp hx h2 h3 (fun z => by rw [z] at h4; cases h4) h5)
  · split at h <;> cases h
    obtain ⟨f, g, rfl, h1, h2⟩ := all2_2 hx
    exact val rfl (x_dx (by omega) h1 h2 (by assumption))
  · split at h <;> cases h
    rename_i hh
    simp only [Bool.and_eq_true, decide_eq_true_eq, Bool.not_eq_true'] at hh
    obtain ⟨rfl, h3⟩ := hh
    obtain ⟨f, g, rfl, h1, h2⟩ := all2_2 hx
    exact din_ok (by omega) h1 h2 h3
  · split at h <;> cases h
    rename_i hh
    simp only [Bool.and_eq_true, decide_eq_true_eq, Bool.not_eq_true'] at hh
    obtain ⟨rfl, h3⟩ := hh
    obtain ⟨f, g, rfl, h1, h2⟩ := all2_2 hx
    exact ⟨x_cmpg (dqe_ok (by omega)) h1 h2 h3, y_cmpg (dqe_ok (by omega)) h1 h2 h3⟩
  · split at h <;> cases h
    rename_i hh
    simp only [Bool.and_eq_true, decide_eq_true_eq, Bool.not_eq_true'] at hh
    obtain ⟨⟨⟨rfl, h3⟩, h4⟩, h5⟩ := hh
    obtain ⟨f, rfl, h1⟩ := all2_1 hx
    exact val rfl (x_dcpy (H.gl h3).1 (K.bl _ h4) h1 (star_one h5))
  · split at h <;> cases h
    rename_i hh
    simp only [Bool.and_eq_true, decide_eq_true_eq, Bool.not_eq_true'] at hh
    obtain ⟨⟨⟨rfl, h3⟩, h4⟩, h5⟩ := hh
    obtain ⟨f, rfl, h1⟩ := all2_1 hx
    exact val rfl (x_dlst H.calm (H.gl h3).1 (K.bl _ h4) h1 (star_one h5))
  · split at h <;> cases h
    rename_i hh
    simp only [Bool.and_eq_true, decide_eq_true_eq, Bool.not_eq_true'] at hh
    obtain ⟨⟨⟨rfl, h3⟩, h4⟩, h5⟩ := hh
    obtain ⟨f, rfl, h1⟩ := all2_1 hx
    exact val rfl (x_dpr rfl H.calm (H.gl h3).1 (K.bl _ h4) h1 (star_one h5))
  · split at h <;> cases h
    rename_i hh
    have hh := of_decide_eq_true hh
    subst hh
    obtain ⟨f, g, rfl, h1, h2⟩ := all2_2 hx
    exact val rfl (x_op2g o_rp h1 h2)
  · cases h
    obtain ⟨f, rfl, h1⟩ := all2_1 hx
    exact val rfl (x_rv rfl h1)
  · split at h <;> cases h
    rename_i hh
    have hh := of_decide_eq_true hh
    subst hh
    have e0 := all2_0 hx
    subst e0
    exact val rfl x_d1
  · exact val (ckk_call h) (ckk_ok H K h hx)
  · split at h <;> cases h
    rename_i o l name apos es' cpos hh
    simp only [Bool.and_eq_true, decide_eq_true_eq] at hh
    obtain ⟨⟨rfl, h2⟩, h3⟩ := hh
    obtain ⟨b1, b2, b3, b4⟩ := methOk_ok h2
    obtain ⟨f, fr, rfl, p1, p2⟩ := all2_c hx
    obtain ⟨m1, m2, m3, m4⟩ := mb_ok (X := X) (c := cx X cl xn) rfl hu o
    cases p2 with
    | nil => exact val rfl (x_bg0 rfl m1 m2 m3 m4 p1 b1 b2)
    | cons a b => exact val rfl (x_bg rfl m1 m2 m3 m4 p1 ((All2.cons a b).pa b3) b1 b2 b3 b4)
  · split at h <;> cases h
    rename_i hh
    simp only [Bool.and_eq_true, decide_eq_true_eq, Bool.not_eq_true'] at hh
    obtain ⟨⟨⟨⟨⟨⟨⟨rfl, rfl⟩, h3⟩, h4⟩, h5⟩, h6⟩, h7⟩, h8⟩ := hh
    obtain ⟨f, g, rfl, h1, h2⟩ := all2_2 hx
    exact val rfl (x_dzp rfl H.calm (H.gl h3).1 (K.bl _ h5) (H.gl h4).1 (K.bl _ h6) h1 h2 h7 h8)
  · cases h
end
end Ir
end
section
set_option Elab.async false
set_option linter.all false
set_option maxRecDepth 100000
namespace Ir
open PySem PySem.Spec PyProof.Rows L2
section
variable {cl : Nat → Addr} {xn : Xn} {X : Cx} {G : Gt} {M : Gm} {S : Sx} {W : WX} {k : Nat} {a b e l : Expr} {es : List Expr}
theorem blkOk_ok {N : List Str} {sc scope : Scope} {own : List (Str × Nat)} (h : blkOk N sc scope own = true) : BlkOk N sc scope own := by
  simp only [blkOk, Bool.and_eq_true, decide_eq_true_eq, List.all_eq_true, Bool.or_eq_true, Bool.not_eq_true', decide_eq_false_iff_not, List.contains_iff_mem, Bool.or_eq_false_iff] at h
  obtain ⟨⟨⟨⟨h1, h2⟩, h3⟩, h4⟩, h5⟩ := h
  refine ⟨h1, h2, h3, fun y hy e => ?_, fun y hy e => ?_⟩
  · rcases h4 y hy with (h | h) | h
    · exact absurd e h
    · exact .inl h
    · exact .inr h
  · rcases h5 y hy with (h | h) | h
    · rcases e with e | e
      · exact absurd e h.1
      · exact absurd e h.2
    · exact .inl h
    · exact .inr (by simpa using h)
theorem XOk.blk (H : XOk S X W) {scope : Scope} (s : Shared) (H0 : Hp) (C : Addr) (cls : List (Str × Addr)) (fp : List Addr) : XOk ⟨S.N, relS scope S.sc, false, S.ql⟩ (X.blk s H0 scope (compEnvC scope cls C X.env) fp) WF where
  N := H.N
  sc := by
    show (compEnvC scope cls C X.env).scope = _
    rw [← H.sc]
    rfl
  nd := H.nd
  calm := H.calm
  df := fun h => by cases h
  ql := H.ql
  tk := takes0
theorem tgNames_ok (H : XOk S X W) : ∀ {is : List Nat} {es : List Expr}, tgNames S is es = true → PGs X es (gAll is) ∧ (assignEach es X.env).length = is.length ∧ (assignEach es X.env).findIdx? (·.1) = none
  | [], [], _ => ⟨pgs_nil, rfl, rfl⟩
  | i :: is, .Name x p :: es, h => by
    simp only [tgNames, Bool.and_eq_true, decide_eq_true_eq] at h
    obtain ⟨⟨h1, h2⟩, h3⟩ := h
    obtain ⟨g1, g2⟩ := H.loc h2
    obtain ⟨r1, r2, r3⟩ := tgNames_ok H h3
    refine ⟨pgs_cons (pg_name H.nd (by rw [H.N]; exact h1) g1 g2) r1, ?_, ?_⟩
    · show (assignEach es X.env).length + 1 = _
      rw [r2]; rfl
    · show List.findIdx? (·.1) ((false, _) :: assignEach es X.env) = none
      rw [List.findIdx?_cons, r3]
      rfl
  | [], _ :: _, h => by simp [tgNames] at h
  | _ :: _, [], h => by simp [tgNames] at h
  | i :: is, .BoolOp .. :: es, h => by simp [tgNames] at h
  | i :: is, .NamedExpr .. :: es, h => by simp [tgNames] at h
  | i :: is, .BinOp .. :: es, h => by simp [tgNames] at h
  | i :: is, .UnaryOp .. :: es, h => by simp [tgNames] at h
  | i :: is, .Lambda .. :: es, h => by simp [tgNames] at h
  | i :: is, .IfExp .. :: es, h => by simp [tgNames] at h
  | i :: is, .Dict .. :: es, h => by simp [tgNames] at h
  | i :: is, .Set .. :: es, h => by simp [tgNames] at h
  | i :: is, .ListComp .. :: es, h => by simp [tgNames] at h
  | i :: is, .SetComp .. :: es, h => by simp [tgNames] at h
  | i :: is, .DictComp .. :: es, h => by simp [tgNames] at h
  | i :: is, .GeneratorExp .. :: es, h => by simp [tgNames] at h
  | i :: is, .Await .. :: es, h => by simp [tgNames] at h
  | i :: is, .Yield .. :: es, h => by simp [tgNames] at h
  | i :: is, .YieldFrom .. :: es, h => by simp [tgNames] at h
  | i :: is, .Compare .. :: es, h => by simp [tgNames] at h
  | i :: is, .Call .. :: es, h => by simp [tgNames] at h
  | i :: is, .FormattedValue .. :: es, h => by simp [tgNames] at h
  | i :: is, .JoinedStr .. :: es, h => by simp [tgNames] at h
  | i :: is, .Constant .. :: es, h => by simp [tgNames] at h
  | i :: is, .Attribute .. :: es, h => by simp [tgNames] at h
  | i :: is, .Subscript .. :: es, h => by simp [tgNames] at h
  | i :: is, .Starred .. :: es, h => by simp [tgNames] at h
  | i :: is, .List .. :: es, h => by simp [tgNames] at h
  | i :: is, .Tuple .. :: es, h => by simp [tgNames] at h
  | i :: is, .Slice .. :: es, h => by simp [tgNames] at h
theorem tg_ok (H : XOk S X W) {t : Tg} {e : Expr} (h : tgOk S t e = true) : PG X e (t.g X.K) := by
  unfold tgOk at h
  split at h
  · simp only [Bool.and_eq_true, decide_eq_true_eq] at h
    obtain ⟨g1, g2⟩ := H.loc h.2
    exact pg_name H.nd (by rw [H.N]; exact h.1) g1 g2
  · obtain ⟨r1, r2, r3⟩ := tgNames_ok H h
    exact pg_unp H.calm r1 r2 r3
  · cases h
theorem tg_tuple {t : Tg} {e : Expr} (h : tgOk S t e = true) (q : isMany t = true) : ∃ es n p, e = .Tuple es n p := by
  unfold tgOk at h
  split at h
  · cases q
  · exact ⟨_, _, _, rfl⟩
  · cases h
theorem y_chain {op op' : CmpOp} {o o' : O2} {fa fb fc : Fe} {c : Rc} {pos : Pos} (ho : OpR X (compareOp op) (r2 c o)) (ho' : OpR X (compareOp op') (r2 c o')) (ha : PE X a (rd c W fa)) (hb : PE X b (rd c W fb)) (hc : PE X e (rd c W fc)) (hm : lastMarks [op, op'] [b, e] = false) :
    PT X (.Compare a [op, op'] [b, e] pos) (rdt c W (tCmpB (mChain o o' fa fb fc))) := (pt_chain ho ho' ha hb hc hm).imp fun σ H Q ⟨w, env, s, hw, hs, he, hp⟩ => by
  subst hw
  have hp' : postt c W σ w ((mChain o o' fa fb fc env s).bind fun d s => match d with
    | .bl b => .ok b s
    | _ => .bad) Q := hp
  have hp2 := post_bindt hp'
  refine chain_core (W := W) ⟨w, env, s, rfl, hs, he, hp2.mono fun v H1 ⟨w1, d, s1, e1, x1, r1, q1, p1⟩ => ?_⟩
  subst e1
  cases d <;> try exact p1.elim
  simp only [rv] at q1
  exact ⟨_, q1, p1 w1 (.refl w1) r1⟩
/-- what a checked expression is -/
structure Good (X : Cx) (c : Rc) (W : WX) (b : Bool) (e : Expr) (p : Fe × Ft) : Prop where
  pe : b = false → PE X e (rd c W p.1)
  pt : b = true → PT X e (rdt c W p.2)
  pw : b = true → ∀ op es q, e = .BoolOp op es q → PW X e (rdt c W p.2)
theorem Good.tv {c : Rc} {f : Fe} {tb : Bool} (h : PE X e (rd c W f)) (hc : c.K = X.K) (hp : plainT e = true) : Good X c W tb e (f, tVal f) :=
  ⟨fun _ => h, fun _ => y_val hc h fun w => true_plain hp w, fun _ op es q he => by subst he; cases hp⟩
theorem con_ok {c : Const} {d : D} {i : Nat} {pos : Pos} (h : conD c = some d) : PE X (.Constant c i pos) (rd (cx X cl xn) W fun _ s => .ok d s) := by
  cases c <;> simp only [conD, Option.some.injEq, reduceCtorEq] at h <;> subst h
  · exact x_con pe_non fun w => rv_nonD
  · exact x_con pe_bl fun w => rv_bl
  · exact x_con pe_int fun w => rv_int
  · exact x_con pe_str fun w => rv_str
theorem bcall_ok (H : XOk S X W) (K : GOk G M cl xn k X) {y : Str} {xs : List Expr} (h : bcall G S y e = some xs) : ∃ p q, e = .Call (.Name y p) xs [] q ∧ Gl X y ∧ X.mg y = none ∧ noStars xs = true := by
  unfold bcall at h
  split at h
  · split at h <;> cases h
    rename_i hh
    simp only [Bool.and_eq_true, decide_eq_true_eq] at hh
    obtain ⟨⟨⟨rfl, h2⟩, h3⟩, h4⟩ := hh
    exact ⟨_, _, rfl, (H.gl h2).1, K.bl _ h3, h4⟩
  · cases h
mutual
theorem ck_ok : ∀ (ie : E) (X : Cx) (S : Sx) (W : WX) (tb : Bool) (e : Expr), XOk S X W → GOk G M cl xn k X → ck G S tb ie e = true → Good X (cx X cl xn) W tb e (evp G M ie)
  | .no, X, S, W, tb, e, H, K, h => ⟨fun _ => PE_no, fun _ => PT_no, fun _ _ _ _ _ => ⟨fun _ _ _ _ _ _ _ ⟨_, _, _, _, _, _, hp⟩ => hp.elim⟩⟩
  | .yes, X, S, W, tb, e, H, K, h => by cases e <;> simp [ck] at h
  | .var i, X, S, W, tb, e, H, K, h => by
    cases e <;> simp only [ck, Bool.false_eq_true] at h
    simp only [Bool.and_eq_true, decide_eq_true_eq] at h
    obtain ⟨g1, g2, g3⟩ := H.vis h.2
    exact .tv (x_var (by rw [H.N]; exact h.1) g1 g2 g3) rfl rfl
  | .con d, X, S, W, tb, e, H, K, h => by
    cases e <;> simp only [ck, Bool.false_eq_true] at h
    split at h
    · have := deq_eq' h
      subst this
      exact .tv (con_ok (by assumption)) rfl rfl
    · cases h
  | .glb d, X, S, W, tb, e, H, K, h => by
    cases e <;> simp only [ck, Bool.false_eq_true] at h
    simp only [Bool.and_eq_true] at h
    obtain ⟨g1, g2, g3⟩ := H.gl h.1
    replace h := h.2
    split at h
    · have := deq_eq' h
      subst this
      obtain ⟨u, v, m1, m2, m3⟩ := K.vl _ _ (by assumption)
      exact .tv (x_con (pe_glob g1 m1 m2 g3) m3) rfl rfl
    · cases h
  | .bty n, X, S, W, tb, e, H, K, h => by
    cases e <;> simp only [ck, Bool.false_eq_true] at h
    simp only [Bool.and_eq_true, decide_eq_true_eq] at h
    obtain ⟨g1, g2, g3⟩ := H.gl h.1.1
    exact .tv (x_con (v := .ty n) (pe_bltn g1 (K.bl _ h.1.2) h.2 rfl g2 g3) fun w => by simp only [rv]) rfl rfl
  | .x o es, X, S, W, tb, e, H, K, h => by
    simp only [ck] at h
    split at h
    · rename_i xs hx
      obtain ⟨h1, h2⟩ := ckx_ok H K hx (cks_ok es X S W xs H K h)
      refine ⟨fun _ => h1, fun _ => h2, fun _ op es' q he => ?_⟩
      subst he
      cases o <;> first | (simp [ckx] at hx; done) | (rename_i hd _ _; cases hd <;> simp [ckx, ckk] at hx)
    · cases h
  | .and_ x y, X, S, W, tb, e, H, K, h => by
    simp only [ck] at h
    split at h <;> try cases h
    rename_i a c rest p
    simp only [Bool.and_eq_true] at h
    have ga := ck_ok x X S W tb a H K h.1
    have gb : (tb = false → PE X (.BoolOp .And (c :: rest) p) (rd (cx X cl xn) W (evp G M y).1)) ∧ (tb = true → PW X (.BoolOp .And (c :: rest) p) (rdt (cx X cl xn) W (evp G M y).2)) := by
      have h2 := h.2
      split at h2
      · have gc := ck_ok y X S W tb c H K h2
        exact ⟨fun e => x_one (gc.pe e), fun e => y_and1 (gc.pt e)⟩
      · have gc := ck_ok y X S W tb _ H K h2
        exact ⟨gc.pe, fun e => gc.pw e _ _ _ rfl⟩
    refine ⟨fun e => x_and rfl (ga.pe e) (gb.1 e), fun e => (y_and (ga.pt e) (gb.2 e)).pt, fun e _ _ _ _ => y_and (ga.pt e) (gb.2 e)⟩
  | .or_ x y, X, S, W, tb, e, H, K, h => by
    simp only [ck] at h
    split at h <;> try cases h
    rename_i a c rest p
    simp only [Bool.and_eq_true] at h
    have ga := ck_ok x X S W tb a H K h.1
    have gb : (tb = false → PE X (.BoolOp .Or (c :: rest) p) (rd (cx X cl xn) W (evp G M y).1)) ∧ (tb = true → PW X (.BoolOp .Or (c :: rest) p) (rdt (cx X cl xn) W (evp G M y).2)) := by
      have h2 := h.2
      split at h2
      · have gc := ck_ok y X S W tb c H K h2
        exact ⟨fun e => x_one (gc.pe e), fun e => y_or1 (gc.pt e)⟩
      · have gc := ck_ok y X S W tb _ H K h2
        exact ⟨gc.pe, fun e => gc.pw e _ _ _ rfl⟩
    refine ⟨fun e => x_or rfl (ga.pe e) (gb.1 e), fun e => (y_or (ga.pt e) (gb.2 e)).pt, fun e _ _ _ _ => y_or (ga.pt e) (gb.2 e)⟩
  | .not_ x, X, S, W, tb, e, H, K, h => by
    simp only [ck] at h
    split at h <;> try cases h
    have ga := ck_ok x X S W tb _ H K h
    exact ⟨fun e => x_not rfl (ga.pe e), fun e => y_not (ga.pt e), fun _ _ _ _ e => by cases e⟩
  | .ite t x y, X, S, W, tb, e, H, K, h => by
    simp only [ck] at h
    split at h <;> try cases h
    simp only [Bool.and_eq_true, Bool.not_eq_true'] at h
    obtain ⟨⟨⟨h0, h1⟩, h2⟩, h3⟩ := h
    have g1 := ck_ok t X S W true _ H K h1
    have g2 := ck_ok x X S W false _ H K h2
    have g3 := ck_ok y X S W false _ H K h3
    subst h0
    exact ⟨fun e => x_ite (g1.pt rfl) (g2.pe rfl) (g3.pe rfl), fun e => Bool.noConfusion e, fun e => Bool.noConfusion e⟩
  | .chain o1 o2 x y z, X, S, W, tb, e, H, K, h => by
    have hu : X.A.units + 65 < cLine := by have := K.rm.un; omega
    simp only [ck] at h
    split at h <;> try cases h
    simp only [Bool.and_eq_true, Bool.not_eq_true'] at h
    obtain ⟨⟨⟨⟨⟨h1, h2⟩, h3⟩, h4⟩, h5⟩, h6⟩ := h
    have g1 := (ck_ok x X S W false _ H K h4).pe rfl
    have g2 := (ck_ok y X S W false _ H K h5).pe rfl
    have g3 := (ck_ok z X S W false _ H K h6).pe rfl
    exact ⟨fun _ => x_chain (cmp_ok hu h1) (cmp_ok hu h2) g1 g2 g3 fun a b c => pe_chain (cmp_ok hu h1) (cmp_ok hu h2) a b c h3, fun _ => y_chain (cmp_ok hu h1) (cmp_ok hu h2) g1 g2 g3 h3, fun _ _ _ _ e => by cases e⟩
  | .comp m i t own q x, X, S, W, tb, e, H, K, h => by
    simp only [ck] at h
    split at h <;> try cases h
    rename_i elt tg iter ifs as scope pos
    simp only [Bool.and_eq_true, Bool.not_eq_true', decide_eq_true_eq, List.all_eq_true, List.contains_iff_mem] at h
    obtain ⟨⟨⟨⟨⟨⟨⟨⟨h0, rfl⟩, h2⟩, h3⟩, h4⟩, h5⟩, h6⟩, h7⟩, h8⟩ := h
    subst h0
    have HB := fun (s : Shared) (H0 : Hp) (C : Addr) (cls : List (Str × Addr)) (fp : List Addr) => H.blk (scope := scope) s H0 C cls fp
    have KB : ∀ (s : Shared) (H0 : Hp) (C : Addr) (cls : List (Str × Addr)) (fp : List Addr), GOk G M cl xn k (X.blk s H0 scope (compEnvC scope cls C X.env) fp) := fun _ _ _ _ _ => ⟨K.at_, K.cv, K.vl, K.bl, K.F, K.T, K.rm, K.dn, fun h => let ⟨cd, P, L, e⟩ := K.lm h; ⟨cd, P, ⟨L.tb, L.mem, L.uniq⟩, e⟩⟩
    refine .tv (x_comp rfl H.calm H.nd (cki_ok i X S W (isMany t) tg iter H K (fun q => tg_tuple h6 q) h5) (by rw [H.N, H.sc]; exact blkOk_ok h3) h4 (fun s H0 C cls fp => tg_ok (HB s H0 C cls fp) h6) (fun s H0 C cls fp => ?_) (fun s H0 C cls fp => (ck_ok x _ _ WF false elt (HB s H0 C cls fp) (KB s H0 C cls fp) h8).pe rfl) fun x => set_plain h2 x) rfl rfl
    split at h7
    · cases q <;> simp only [isYes, Bool.false_eq_true] at h7
      exact ⟨fun pins s σ H Q I h => pts_nil.run pins s σ H Q I (by
        obtain ⟨w, env, st, hw, hs, he, hp⟩ := h
        exact hw ▸ hp w (.refl w) hs)⟩
    · exact pts_one ((ck_ok q _ _ WF true _ (HB s H0 C cls fp) (KB s H0 C cls fp) h7).pt rfl)
    · cases h7
theorem cks_ok : ∀ (ies : Es) (X : Cx) (S : Sx) (W : WX) (es : List Expr), XOk S X W → GOk G M cl xn k X → cks G S ies es = true → All2 X (cx X cl xn) W (evs G M ies) es
  | .nil, X, S, W, es, H, K, h => by
    cases es with
    | nil => exact .nil
    | cons a b => simp [cks] at h
  | .cons ie ies, X, S, W, es, H, K, h => by
    cases es with
    | nil => simp [cks] at h
    | cons a b =>
      simp only [cks, Bool.and_eq_true] at h
      exact .cons ((ck_ok ie X S W false a H K h.1).pe rfl) (cks_ok ies X S W b H K h.2)
theorem cki_ok : ∀ (ii : I) (X : Cx) (S : Sx) (W : WX) (tt : Bool) (tg e : Expr), XOk S X W → GOk G M cl xn k X → (tt = true → ∃ es n p, tg = .Tuple es n p) → cki G S ii tt e = true → PI X tg e (rdi (cx X cl xn) W (evi G M ii))
  | .seq ie, X, S, W, tt, tg, e, H, K, ht, h => by
    simp only [cki] at h
    exact p_seq rfl ((ck_ok ie X S W false e H K h).pe rfl)
  | .rng es, X, S, W, tt, tg, e, H, K, ht, h => by
    simp only [cki] at h
    split at h <;> try cases h
    rename_i xs hb
    obtain ⟨p, q, rfl, g1, g2, g3⟩ := bcall_ok H K hb
    have ha := cks_ok es X S W xs H K h
    simp only [evi]
    generalize evs G M es = fs at ha ⊢
    cases ha with
    | nil => exact ⟨fun _ _ _ _ _ _ ⟨_, _, _, _, _, _, hp⟩ => hp.elim⟩
    | cons a1 t1 =>
      cases t1 with
      | nil => exact p_rng1 g1 g2 ((All2.cons a1 .nil).pa g3) (star_one (noStars_cons g3).1)
      | cons a2 t2 =>
        have n2 := (noStars_cons g3).2
        cases t2 with
        | nil => exact p_rng2 g1 g2 ((All2.cons a1 (.cons a2 .nil)).pa g3) (by rw [star_one (noStars_cons g3).1, star_one (noStars_cons n2).1]; rfl) (by rw [star_one (noStars_cons n2).1]; rfl)
        | cons a3 t3 =>
          cases t3 with
          | nil => exact p_rng3 g1 g2 ((All2.cons a1 (.cons a2 (.cons a3 .nil))).pa g3) (star_one (noStars_cons g3).1) (star_any n2)
          | cons a4 t4 => exact ⟨fun _ _ _ _ _ _ ⟨_, _, _, _, _, _, hp⟩ => hp.elim⟩
  | .enum es, X, S, W, tt, tg, e, H, K, ht, h => by
    simp only [cki] at h
    split at h <;> try cases h
    rename_i xs hb
    obtain ⟨p, q, rfl, g1, g2, g3⟩ := bcall_ok H K hb
    simp only [Bool.and_eq_true, decide_eq_true_eq] at h
    obtain ⟨⟨h1, h2⟩, h3⟩ := h
    have ha := cks_ok es X S W xs H K h3
    obtain ⟨ts, n, tp, rfl⟩ := ht h1
    simp only [evi]
    match xs, h2 with
    | [x], _ => exact p_enum rfl g1 g2 (ha.pa g3) (star_one (noStars_cons g3).1)
  | .zip es, X, S, W, tt, tg, e, H, K, ht, h => by
    simp only [cki] at h
    split at h <;> try cases h
    rename_i xs hb
    obtain ⟨p, q, rfl, g1, g2, g3⟩ := bcall_ok H K hb
    simp only [Bool.and_eq_true, decide_eq_true_eq] at h
    obtain ⟨⟨h1, h2⟩, h3⟩ := h
    have ha := cks_ok es X S W xs H K h3
    obtain ⟨ts, n, tp, rfl⟩ := ht h1
    simp only [evi]
    match xs, h2 with
    | [x, y], _ => exact p_zip rfl g1 g2 (ha.pa g3) (star_one (noStars_cons g3).1) (star_any (noStars_cons g3).2)
end
end
end Ir
end
section
set_option Elab.async false
set_option linter.all false
set_option maxRecDepth 100000
namespace Ir
open PySem PySem.Spec PyProof.Rows L2

/-! ### statements -/
mutual
inductive Stm where
  | no | pass | brk | cnt | retN | ret (e : E) | expr (e : E)
  | set (i : Nat) (e : E) | asg (t : Tg) (e : E) | par (i j : Nat) (es : Es) | par3 (i j l : Nat) (es : Es) | sub (o i v : E) | dput (o i v : E) | fld (f : Str) (o v : E)
  | if_ (t : E) (a b : Stms) | for_ (t : Tg) (i : I) (b : Stms) | while_ (t : E) (b : Stms)
inductive Stms where
  | nil | cons (s : Stm) (ss : Stms)
end
def sAsgT (fa : Fe) (t : Tg) : Fst := fun env s => (fa env s).st env fun d s => match t.put env d with
  | some env => .nx env s
  | none => .bad
mutual
def evS (G : Gt) (M : Gm) : Stm → Fst
  | .no => fun _ _ => .bad
  | .pass => sNext
  | .brk => sBrk
  | .cnt => sCnt
  | .retN => sRetN
  | .ret e => sRet (evp G M e).1
  | .expr e => sExpr (evp G M e).1
  | .set i e => sAsg (evp G M e).1 (tgName i)
  | .asg t e => sAsgT (evp G M e).1 t
  | .par i j es => sPar i j (seqFs (evs G M es))
  | .par3 i j l es => sPar3 i j l (seqFs (evs G M es))
  | .sub o i v => sSub (evp G M o).1 (evp G M i).1 (evp G M v).1
  | .dput o i v => sDput (evp G M o).1 (evp G M i).1 (evp G M v).1
  | .fld f o v => sFldS G.F f (evp G M o).1 (evp G M v).1
  | .if_ t a b => sIf (evp G M t).2 (evSs G M a) (evSs G M b)
  | .for_ t i b => sFor (evi G M i) t (evSs G M b)
  | .while_ t b => whileS (evp G M t).2 (evSs G M b) M.fu
def evSs (G : Gt) (M : Gm) : Stms → Fst
  | .nil => sNext
  | .cons s ss => sSeq (evS G M s) (evSs G M ss)
end
def notComp : Expr → Bool
  | .ListComp _ _ _ _ => false
  | .SetComp _ _ _ _ => false
  | .DictComp _ _ _ _ _ => false
  | _ => true
def notTupE : Expr → Bool
  | .Tuple _ _ _ => false
  | _ => true
/-- a comprehension on the name's own line -/
def swOk (S : Sx) (x : Str) (px : Pos) : Expr → Bool
  | .ListComp _ _ scope pos => decide (S.sc.kind = .function) && decide (S.sc.names.lookup x = some .local) && (px.line == pos.line) && !(scope.names.any fun (n, k) => n == x && (k == .local || k == .cell))
  | _ => false
def locL (S : Sx) (x : Str) : Bool := decide (S.sc.names.lookup x = some .local)
mutual
def ckS (G : Gt) (S : Sx) : Stm → Stmt → Bool
  | .no, _ => true
  | .pass, st => match st with
    | .Pass _ => true
    | .Expr (.Constant (.str _) _ _) _ => true
    | _ => false
  | .brk, st => match st with
    | .Break _ => true
    | _ => false
  | .cnt, st => match st with
    | .Continue _ => true
    | _ => false
  | .retN, st => match st with
    | .Return none _ => true
    | _ => false
  | .ret e, st => match st with
    | .Return (some x) _ => ck G S false e x
    | _ => false
  | .expr e, st => match st with
    | .Expr x _ => notComp x && ck G S false e x
    | _ => false
  | .set i e, st => match st with
    | .Assign [.Name x px] v _ => decide (S.N[i]? = some x) && locOk S x && (notComp v || swOk S x px v || decide (S.sc.names.lookup x = some .cell)) && ck G S false e v
    | _ => false
  | .asg t e, st => match st with
    | .Assign [tg] v _ => isMany t && notComp v && notTupE v && tgOk S t tg && ck G S false e v
    | _ => false
  | .par i j es, st => match st with
    | .Assign [.Tuple [.Name x px, .Name y py] _ _] (.Tuple [a, b] _ _) _ => decide (S.N[i]? = some x) && decide (S.N[j]? = some y) && !decide (i = j) && locL S x && locL S y && decide (S.sc.kind = .function) && !decide (x = y)
      && (py.line == px.line) && noStars [a, b] && !([a, b].all (foldedForSure 8)) && !([a, b].all (constantsAlone 8)) && cks G S es [a, b]
    | _ => false
  | .par3 i j l es, st => match st with
    | .Assign [.Tuple [.Name x px, .Name y py, .Name z pz] _ _] (.Tuple [a, b, c] _ _) _ => decide (S.N[i]? = some x) && decide (S.N[j]? = some y) && decide (S.N[l]? = some z) && !decide (i = j) && !decide (i = l) && !decide (j = l)
      && (locL S x && locL S y && locL S z && decide (S.sc.kind = .function) && !decide (x = y) && !decide (x = z) && !decide (y = z))
      && (py.line == px.line) && (pz.line == px.line) && noStars [a, b, c] && !([a, b, c].all (foldedForSure 8)) && !([a, b, c].all (constantsAlone 8)) && cks G S es [a, b, c]
    | _ => false
  | .sub o i v, st => match st with
    | .Assign [.Subscript a b _] e _ => notSlice b && notComp e && ck G S false o a && ck G S false i b && ck G S false v e
    | _ => false
  | .dput o i v, st => match st with
    | .Assign [.Subscript a b _] e _ => notComp e && ck G S false o a && ck G S false i b && ck G S false v e
    | _ => false
  | .fld f o v, st => match st with
    | .Assign [.Attribute a f' _] e _ => decide (f = f') && notComp e && ck G S false o a && ck G S false v e
    | _ => false
  | .if_ t a b, st => match st with
    | .If e x y _ => ck G S true t e && ckSs G S a x && ckSs G S b y
    | _ => false
  | .for_ t i b, st => match st with
    | .For tg iter body [] _ => notSet iter && cki G S i (isMany t) iter && tgOk S t tg && ckSs G S b body
    | _ => false
  | .while_ t b, st => match st with
    | .While e body [] _ => ck G S true t e && ckSs G S b body
    | _ => false
def ckSs (G : Gt) (S : Sx) : Stms → List Stmt → Bool
  | .nil, sts => sts.isEmpty
  | .cons s ss, sts => match sts with
    | st :: sts => ckS G S s st && ckSs G S ss sts
    | _ => false
end
section
variable {cl : Nat → Addr} {xn : Xn} {X : Cx} {G : Gt} {M : Gm} {S : Sx} {W : WX} {k : Nat} {a b e l : Expr} {es : List Expr}
theorem sw_plain {t : Option Expr} {n : Nat} {env : Env} (h : notComp e = true) : swapsWith e t n env = pure false := by
  cases e <;> first | rfl | cases h
theorem sw_cell {x : Str} {px : Pos} {n : Nat} {env : Env} (h : env.scope.names.lookup x = some .cell) : swapsWith e (some (.Name x px)) n env = pure false := by
  have k : (env.kindOf x == some .local) = false := by
    unfold Env.kindOf
    rw [h]
    rfl
  cases e <;> first | rfl | (unfold swapsWith; simp only [k, Bool.and_false, Bool.false_and])
theorem sw_soleP {t : Expr} {n : Nat} {env : Env} (h : notComp e = true) : swapsWithSole [t] e n env = pure false := sw_plain h
theorem sw_storeP {t : Expr} {env : Env} (h : notTupE e = true) : swappedStores [t] e env = pure none := by
  cases e <;> first | (cases h; done) | (cases t <;> rfl)
theorem sw_sub {o b e : Expr} {p : Pos} {env : Env} : swappedStores [.Subscript o b p] e env = pure none := by
  cases e <;> rfl
theorem s_asgT {t : Tg} {tg : Expr} {fa : Fe} {pos : Pos} {c : Rc} (hk : c.K = X.K) (ha : PE X e (rd c W fa)) (hg : PG X tg (t.g X.K)) (hs : swapsWithSole [tg] e pos.line X.env = pure false) (hw : swappedStores [tg] e X.env = pure none) (h1 : (assignEach [tg] X.env).map (·.2) = [assign tg X.env]) :
    PS X (.Assign [tg] e pos) (rds c W (sAsgT fa t)) := (ps_asg ha hg hs hw h1).imp fun E σ H ⟨w, env, s, hw, hs, he, hp⟩ => by
  subst hw
  refine ⟨w, env, s, rfl, hs, he, (st_bind he hp).mono fun v H1 ⟨w1, d, s1, e1, x1, r1, q1, p1⟩ => ?_⟩
  subst e1
  cases hq : t.put env d with
  | none => rw [hq] at p1; exact p1.elim
  | some env1 =>
    rw [hq] at p1
    exact hk ▸ put_ok (he.mono x1) q1 hq rfl fun σ1 he1 _ => p1 w1 σ1 (.refl w1) r1 he1
theorem comp_set {m : Bool} {i : I} {t : Tg} {own : List (Str × Nat)} {q x : E} {n : Nat} {y : Str} {py spos : Pos} (H : XOk S X W) (K : GOk G M cl xn k X) (hn : X.N[n]? = some y) (hc : swOk S y py e = true) (h : ck G S false (.comp m i t own q x) e = true) :
    PS X (.Assign [.Name y py] e spos) (rds (cx X cl xn) W (sAsg (evp G M (.comp m i t own q x)).1 (tgName n))) := by
  simp only [ck] at h
  split at h <;> try cases h
  rename_i elt tg iter ifs as scope pos
  simp only [Bool.and_eq_true, Bool.not_eq_true', decide_eq_true_eq, List.all_eq_true, List.contains_iff_mem] at h
  obtain ⟨⟨⟨⟨⟨⟨⟨⟨h0, rfl⟩, h2⟩, h3⟩, h4⟩, h5⟩, h6⟩, h7⟩, h8⟩ := h
  have HB := fun (s : Shared) (H0 : Hp) (C : Addr) (cls : List (Str × Addr)) (fp : List Addr) => H.blk (scope := scope) s H0 C cls fp
  have KB : ∀ (s : Shared) (H0 : Hp) (C : Addr) (cls : List (Str × Addr)) (fp : List Addr), GOk G M cl xn k (X.blk s H0 scope (compEnvC scope cls C X.env) fp) := fun _ _ _ _ _ => ⟨K.at_, K.cv, K.vl, K.bl, K.F, K.T, K.rm, K.dn, fun h => let ⟨cd, P, L, e⟩ := K.lm h; ⟨cd, P, ⟨L.tb, L.mem, L.uniq⟩, e⟩⟩
  simp only [swOk, Bool.and_eq_true, Bool.not_eq_true', decide_eq_true_eq] at hc
  obtain ⟨⟨⟨c1, c2⟩, c3⟩, c4⟩ := hc
  refine s_comp rfl H.calm H.nd hn (by rw [H.sc]; exact c2) (sw_true (by rw [H.sc]; exact c1) (by rw [H.sc]; exact c2) c3 c4) (cki_ok i X S W (isMany t) tg iter H K (fun q => tg_tuple h6 q) h5) (by rw [H.N, H.sc]; exact blkOk_ok h3) h4 (fun s H0 C cls fp => tg_ok (HB s H0 C cls fp) h6) (fun s H0 C cls fp => ?_) (fun s H0 C cls fp => (ck_ok x _ _ WF false elt (HB s H0 C cls fp) (KB s H0 C cls fp) h8).pe rfl) fun x => set_plain h2 x
  split at h7
  · cases q <;> simp only [isYes, Bool.false_eq_true] at h7
    exact ⟨fun pins s σ H Q I h => pts_nil.run pins s σ H Q I (by
      obtain ⟨w, env, st, hw, hs, he, hp⟩ := h
      exact hw ▸ hp w (.refl w) hs)⟩
  · exact pts_one ((ck_ok q _ _ WF true _ (HB s H0 C cls fp) (KB s H0 C cls fp) h7).pt rfl)
  · cases h7
theorem PS_no {st : Stmt} {c : Rc} : PS X st (rds c W fun _ _ => .bad) := ⟨fun _ _ _ _ _ _ ⟨_, _, _, _, _, _, hp⟩ => hp.elim⟩
theorem swap_par {x y : Str} {px py pt pt2 : Pos} {kt k2 : Nat} (hk : X.env.scope.kind = .function) (hx : X.env.scope.names.lookup x = some .local) (hy : X.env.scope.names.lookup y = some .local) (hxy : x ≠ y) (hl : (py.line == px.line) = true) (hs : noStars [a, b] = true)
    (h1 : ([a, b].all (foldedForSure 8)) = false) (h2 : ([a, b].all (constantsAlone 8)) = false) : swappedStores [.Tuple [.Name x px, .Name y py] kt pt] (.Tuple [a, b] k2 pt2) X.env = pure (some [x, y]) := by
  have hb : X.env.blockKind = .function := by unfold Env.blockKind; rw [hk]; rfl
  have kx : X.env.kindOf x = some .local := hx
  have ky : X.env.kindOf y = some .local := hy
  have g1 := (noStars_cons hs).1
  have g2 := (noStars_cons (noStars_cons hs).2).1
  have hl' : py.line = px.line := by simpa using hl
  have ed : ([x, y] : List Str).eraseDups.length = 2 := by
    have : (y == x) = false := by simpa using fun e => hxy e.symm
    simp [List.eraseDups_cons, this]
  unfold swappedStores
  simp only [hb, h1, h2, List.head?, Option.map, Option.getD, Expr.pos, List.filterMap_cons, List.filterMap_nil, kx, ky, hl', beq_self_eq_true, Bool.and_self, if_true, List.length_cons, List.length_nil, ed]
  rw [if_neg (by decide)]
  show (if _ then _ else _) = _
  rw [if_neg]
  · rfl
  · simp only [List.any_cons, List.any_nil, Bool.or_false, Bool.or_eq_true]
    rintro (h | h)
    · cases a <;> first | (cases h; done) | (cases g1; done)
    · cases b <;> first | (cases h; done) | (cases g2; done)
theorem swap_par3 {x y z : Str} {px py pz pt pt2 : Pos} {kt k2 : Nat} {c : Expr} (hk : X.env.scope.kind = .function) (hx : X.env.scope.names.lookup x = some .local) (hy : X.env.scope.names.lookup y = some .local) (hz : X.env.scope.names.lookup z = some .local) (hxy : x ≠ y) (hxz : x ≠ z) (hyz : y ≠ z) (hl : (py.line == px.line) = true) (hl2 : (pz.line == px.line) = true) (hs : noStars [a, b, c] = true)
    (h1 : ([a, b, c].all (foldedForSure 8)) = false) (h2 : ([a, b, c].all (constantsAlone 8)) = false) : swappedStores [.Tuple [.Name x px, .Name y py, .Name z pz] kt pt] (.Tuple [a, b, c] k2 pt2) X.env = pure (some [x, y, z]) := by
  have hb : X.env.blockKind = .function := by unfold Env.blockKind; rw [hk]; rfl
  have kx : X.env.kindOf x = some .local := hx
  have ky : X.env.kindOf y = some .local := hy
  have kz : X.env.kindOf z = some .local := hz
  have g1 := (noStars_cons hs).1
  have g2 := (noStars_cons (noStars_cons hs).2).1
  have g3 := (noStars_cons (noStars_cons (noStars_cons hs).2).2).1
  have hl' : py.line = px.line := by simpa using hl
  have hl2' : pz.line = px.line := by simpa using hl2
  have ed : ([x, y, z] : List Str).eraseDups.length = 3 := by
    have e1 : (y == x) = false := by simpa using fun e => hxy e.symm
    have e2 : (z == x) = false := by simpa using fun e => hxz e.symm
    have e3 : (z == y) = false := by simpa using fun e => hyz e.symm
    simp [List.eraseDups_cons, e1, e2, e3]
  unfold swappedStores
  simp only [hb, h1, h2, List.head?, Option.map, Option.getD, Expr.pos, List.filterMap_cons, List.filterMap_nil, kx, ky, kz, hl', hl2', beq_self_eq_true, Bool.and_self, if_true, List.length_cons, List.length_nil, ed]
  rw [if_neg (by decide)]
  show (if _ then _ else _) = _
  rw [if_neg]
  · rfl
  · simp only [List.any_cons, List.any_nil, Bool.or_false, Bool.or_eq_true]
    rintro (h | h | h)
    · cases a <;> first | (cases h; done) | (cases g1; done)
    · cases b <;> first | (cases h; done) | (cases g2; done)
    · cases c <;> first | (cases h; done) | (cases g3; done)
theorem asg_subP {o b : Expr} {p2 : Pos} {env : Env} (h : notSlice b = true) (v : Value) : assign (.Subscript o b p2) env v = (do
      let ov ← holding [v] (eval o env)
      let iv ← holding [v, ov] (eval b env)
      standAt p2
      holding [v, ov, iv] (setItem ov iv v)
      release [v, ov, iv] []) := by
  cases b <;> first | rfl | cases h
theorem swOk_is {x : Str} {p : Pos} (h : swOk S x p e = true) : ∃ elt gs scope pos, e = .ListComp elt gs scope pos := by
  unfold swOk at h
  split at h
  · exact ⟨_, _, _, _, rfl⟩
  · cases h
mutual
theorem ckS_ok : ∀ (is : Stm) (st : Stmt) (X : Cx) (S : Sx) (W : WX), XOk S X W → GOk G M cl xn k X → PassesOwn (model X.prog X.w) X.A X.env X.xe → ckS G S is st = true → PS X st (rds (cx X cl xn) W (evS G M is))
  | .no, st, X, S, W, H, K, P, h => PS_no
  | .pass, st, X, S, W, H, K, P, h => by
    simp only [ckS] at h
    split at h <;> try cases h
    · exact s_pass
    · exact (ps_doc).imp fun E σ H ⟨w, env, s, hw, hs, he, hp⟩ => hw ▸ hp w σ (.refl w) hs he
  | .brk, st, X, S, W, H, K, P, h => by
    simp only [ckS] at h
    split at h <;> try cases h
    exact s_brk
  | .cnt, st, X, S, W, H, K, P, h => by
    simp only [ckS] at h
    split at h <;> try cases h
    exact s_cnt
  | .retN, st, X, S, W, H, K, P, h => by
    simp only [ckS] at h
    split at h <;> try cases h
    exact s_retN
  | .ret e, st, X, S, W, H, K, P, h => by
    simp only [ckS] at h
    split at h <;> try cases h
    exact s_ret ((ck_ok e X S W false _ H K h).pe rfl)
  | .expr e, st, X, S, W, H, K, P, h => by
    simp only [ckS] at h
    split at h <;> try cases h
    simp only [Bool.and_eq_true] at h
    exact s_expr ((ck_ok e X S W false _ H K h.2).pe rfl) (sw_plain h.1)
  | .set i e, st, X, S, W, H, K, P, h => by
    simp only [ckS] at h
    split at h <;> try cases h
    simp only [Bool.and_eq_true, decide_eq_true_eq, Bool.or_eq_true] at h
    obtain ⟨⟨⟨h1, h2⟩, h3⟩, h4⟩ := h
    obtain ⟨g1, g2⟩ := H.loc h2
    rcases h3 with (h3 | h3) | h3
    · exact s_set H.nd (by rw [H.N]; exact h1) g1 ((ck_ok e X S W false _ H K h4).pe rfl) (sw_plain h3) g2
    · cases e with
      | comp m i t own q x => exact comp_set H K (by rw [H.N]; exact h1) h3 h4
      | no => exact ⟨fun _ _ _ _ _ _ ⟨_, _, _, _, _, _, hp⟩ => hp.elim⟩
      | x o es =>
        obtain ⟨_, _, _, _, rfl⟩ := swOk_is h3
        simp only [ck] at h4
        cases o <;> first | (simp [ckx] at h4; done) | (rename_i hd _ _; cases hd <;> simp [ckx, ckk] at h4)
      | _ =>
        obtain ⟨_, _, _, _, rfl⟩ := swOk_is h3
        simp [ck] at h4
    · exact s_set H.nd (by rw [H.N]; exact h1) g1 ((ck_ok e X S W false _ H K h4).pe rfl) (sw_cell (by rw [H.sc]; exact h3)) g2
  | .asg t e, st, X, S, W, H, K, P, h => by
    simp only [ckS] at h
    split at h <;> try cases h
    simp only [Bool.and_eq_true] at h
    obtain ⟨⟨⟨⟨h0, h1⟩, h2⟩, h3⟩, h4⟩ := h
    obtain ⟨ts, n, p, rfl⟩ := tg_tuple h3 h0
    exact s_asgT rfl ((ck_ok e X S W false _ H K h4).pe rfl) (tg_ok H h3) (sw_soleP h1) (sw_storeP h2) rfl
  | .par i j es, st, X, S, W, H, K, P, h => by
    simp only [ckS] at h
    split at h <;> try cases h
    simp only [Bool.and_eq_true, Bool.not_eq_true', decide_eq_true_eq, decide_eq_false_iff_not, locL] at h
    obtain ⟨⟨⟨⟨⟨⟨⟨⟨⟨⟨⟨h1, h2⟩, h3⟩, h4⟩, h5⟩, h6⟩, h7⟩, h8⟩, h9⟩, h10⟩, h11⟩, h12⟩ := h
    refine s_par (ta := rda (cx X cl xn) W (seqFs (evs G M es))) (x := "") (y := "") (ps_par H.calm H.nd (by rw [H.N]; exact h1) (by rw [H.N]; exact h2) h3 (by rw [H.sc]; exact h4) (by rw [H.sc]; exact h5) ((cks_ok es X S W _ H K h12).pa h9) (swap_par (by rw [H.sc]; exact h6) (by rw [H.sc]; exact h4) (by rw [H.sc]; exact h5) h7 h8 h9 h10 h11) rfl)
  | .par3 i j l es, st, X, S, W, H, K, P, h => by
    simp only [ckS] at h
    split at h <;> try cases h
    simp only [Bool.and_eq_true, Bool.not_eq_true', decide_eq_true_eq, decide_eq_false_iff_not, locL] at h
    obtain ⟨⟨⟨⟨⟨⟨⟨⟨⟨⟨⟨⟨h1, h2⟩, h3⟩, n1⟩, n2⟩, n3⟩, ⟨⟨⟨⟨⟨⟨l1, l2⟩, l3⟩, kf⟩, m1⟩, m2⟩, m3⟩⟩, p1⟩, p2⟩, q1⟩, q2⟩, q3⟩, q4⟩ := h
    exact s_par3 (ta := rda (cx X cl xn) W (seqFs (evs G M es))) (ps_par3 H.calm H.nd (by rw [H.N]; exact h1) (by rw [H.N]; exact h2) (by rw [H.N]; exact h3) n1 n2 n3 (by rw [H.sc]; exact l1) (by rw [H.sc]; exact l2) (by rw [H.sc]; exact l3) ((cks_ok es X S W _ H K q4).pa q1) (swap_par3 (by rw [H.sc]; exact kf) (by rw [H.sc]; exact l1) (by rw [H.sc]; exact l2) (by rw [H.sc]; exact l3) m1 m2 m3 p1 p2 q1 q2 q3) rfl)
  | .sub o i v, st, X, S, W, H, K, P, h => by
    simp only [ckS] at h
    split at h <;> try cases h
    simp only [Bool.and_eq_true] at h
    obtain ⟨⟨⟨⟨h1, h2⟩, h4⟩, h5⟩, h6⟩ := h
    refine s_sub ((ck_ok o X S W false _ H K h4).pe rfl) ((ck_ok i X S W false _ H K h5).pe rfl) ((ck_ok v X S W false _ H K h6).pe rfl) (sw_soleP h2) sw_sub rfl (asg_subP h1)
  | .dput o i v, st, X, S, W, H, K, P, h => by
    have hu : X.A.units + 65 < cLine := by have := K.rm.un; omega
    simp only [ckS] at h
    split at h <;> try cases h
    simp only [Bool.and_eq_true] at h
    obtain ⟨⟨⟨h2, h4⟩, h5⟩, h6⟩ := h
    exact s_dput (by omega) ((ck_ok o X S W false _ H K h4).pe rfl) ((ck_ok i X S W false _ H K h5).pe rfl) ((ck_ok v X S W false _ H K h6).pe rfl) (sw_plain h2)
  | .fld f o v, st, X, S, W, H, K, P, h => by
    simp only [ckS] at h
    split at h <;> try cases h
    simp only [Bool.and_eq_true, decide_eq_true_eq] at h
    obtain ⟨⟨⟨rfl, h2⟩, h3⟩, h4⟩ := h
    exact s_fld rfl K.F ((ck_ok o X S W false _ H K h3).pe rfl) ((ck_ok v X S W false _ H K h4).pe rfl) (sw_plain h2)
  | .if_ t a b, st, X, S, W, H, K, P, h => by
    simp only [ckS] at h
    split at h <;> try cases h
    simp only [Bool.and_eq_true] at h
    exact s_if ((ck_ok t X S W true _ H K h.1.1).pt rfl) (ckSs_ok a _ X S W H K P h.1.2) (ckSs_ok b _ X S W H K P h.2)
  | .for_ t i b, st, X, S, W, H, K, P, h => by
    simp only [ckS] at h
    split at h <;> try cases h
    simp only [Bool.and_eq_true] at h
    obtain ⟨⟨⟨h1, h2⟩, h3⟩, h4⟩ := h
    exact s_for rfl P H.calm (cki_ok i X S W (isMany t) _ _ H K (fun q => tg_tuple h3 q) h2) (tg_ok H h3) (ckSs_ok b _ X S W H K P h4) fun x => set_plain h1 x
  | .while_ t b, st, X, S, W, H, K, P, h => by
    simp only [ckS] at h
    split at h <;> try cases h
    simp only [Bool.and_eq_true] at h
    exact s_while P ((ck_ok t X S W true _ H K h.1).pt rfl) (ckSs_ok b _ X S W H K P h.2)
theorem ckSs_ok : ∀ (is : Stms) (sts : List Stmt) (X : Cx) (S : Sx) (W : WX), XOk S X W → GOk G M cl xn k X → PassesOwn (model X.prog X.w) X.A X.env X.xe → ckSs G S is sts = true → PSs X sts (rds (cx X cl xn) W (evSs G M is))
  | .nil, sts, X, S, W, H, K, P, h => by
    cases sts with
    | nil => exact s_nil
    | cons a b => simp [ckSs] at h
  | .cons s ss, sts, X, S, W, H, K, P, h => by
    cases sts with
    | nil => simp [ckSs] at h
    | cons a b =>
      simp only [ckSs, Bool.and_eq_true] at h
      exact s_cons (ckS_ok s a X S W H K P h.1) (ckSs_ok ss b X S W H K P h.2)
end
end
end Ir
end
section
set_option Elab.async false
set_option linter.all false
set_option maxRecDepth 100000
namespace Ir
open PySem PySem.Spec PyProof.Rows L2

/-! ### defs -/
/-- what a def means -/
structure Fd where
  np : Nat
  nn : Nat
  keep : Bool
  body : Stms
def leaveX (s s2 : Sto) (k : Nat) (ds : List D) : R D := if okAll s s2 && bels s.length ds then .ex k ds (s2.take s.length) else .ex k ds s2
def startE (nn : Nat) (ds : List D) : Ev := ds.map some ++ List.replicate (nn - ds.length) none
def endF (kp : Bool) (s : Sto) : SR → R D
  | .nx _ s2 => if kp = true then .ok .non s2 else leave s s2 .non
  | .rt d s2 => if kp = true then .ok d s2 else leave s s2 d
  | .ex k es _ s2 => leaveX s s2 k es
  | _ => .bad
def runF (G : Gt) (M : Gm) (f : Fd) (ds : List D) (s : Sto) : R D := if ds.length = f.np then endF f.keep s (evSs G M f.body (startE f.nn ds) s) else .bad
abbrev noF : Nat → List D → Sto → R D := fun _ _ _ => .bad
def callP (G : Gt) (P : List Fd) (M : Gm) (i : Nat) (ds : List D) (s : Sto) : R D := match P[i]? with
  | some f => runF G M f ds s
  | none => .bad
/-- the defs' meanings by level: each call goes one level down, an instance's making two -/
def rawL (G : Gt) (P : List Fd) (fu : Nat) : Nat → Nat → List D → Sto → R D
  | 0 => noF
  | 1 => noF
  | k + 2 => callP G P ⟨rawL G P fu (k + 1), rawL G P fu k, fu⟩
abbrev lev (G : Gt) (P : List Fd) (fu k : Nat) : Gm := ⟨rawL G P fu (k + 1), rawL G P fu k, fu⟩

theorem xr_cut {c : Rc} {w : Wd} {n k : Nat} {ds : List D} {dx : Addr} (h : xr c w k ds dx) (q : bels n ds = true) : xr c (w.cut n) k ds dx := by
  obtain ⟨h1, vs, h2, h3⟩ := h
  exact ⟨.inl h1, vs, h2, rvs_cut ds vs h3 q⟩
theorem leaveX_ok {c : Rc} {W : WX} {σ : L2.St} {w w2 : Wd} {s s2 : Sto} {k : Nat} {ds : List D} {dx : Addr} {Q : VK} (hs : Rs c w s) (e : Ext w w2) (hs2 : Rs c w2 s2) (r : xr c w2 k ds dx) (h : post c W σ w (leaveX s s2 k ds) Q) : W (.ref (c.cl k)) (some dx) σ w2.H := by
  unfold leaveX at h
  split at h
  · rename_i ok
    simp only [Bool.and_eq_true] at ok
    have hl : s.length = w.N := hs.len.symm
    rw [hl] at h ok
    exact h (w2.cut w.N) dx e.cut (hs.cut e hs2 ok.1) (xr_cut r ok.2)
  · exact h w2 dx e hs2 r
theorem re_start {c : Rc} {w : Wd} {ds : List D} {vs : List V} {N : List Str} {nn : Nat} (h : rvs c w ds vs) (hn : N.length = nn) : re c w (startE nn ds) (L2.start N vs) := by
  subst hn
  have hl := h.length
  refine ⟨by simp [startE, L2.start, hl], fun i d hi => ?_⟩
  unfold startE at hi
  by_cases hlt : i < ds.length
  · rw [List.getElem?_append_left (by simpa using hlt), List.getElem?_map] at hi
    cases q : ds[i]? with
    | none => rw [q] at hi; cases hi
    | some x =>
      rw [q] at hi
      cases hi
      obtain ⟨v, h1, h2⟩ := h.get i d q
      refine ⟨v, ?_, h2⟩
      unfold L2.start
      rw [List.getElem?_append_left (by simpa [← hl] using hlt), List.getElem?_map, h1]
      rfl
  · rw [List.getElem?_append_right (by simpa using Nat.le_of_not_lt hlt), List.getElem?_replicate] at hi
    split at hi <;> cases hi
/-- one def in the machine, and what it means -/
structure Dfs where
  f : Addr
  fd : FuncData
  ps : List Str
  N : List Str
  x : Str
  qual : Str
  st : Stmt
  d : Fd
structure DfsOk (K : PySem.W.Frag) (G : Gt) (d : Dfs) : Prop where
  fn : Fun K d.x d.qual d.st d.f d.fd
  sc : FnScope d.N d.ps (defScope d.st)
  ck : ckSs G ⟨d.N, defScope d.st, true, d.qual ++ ".<locals>."⟩ d.d.body (defBody d.st) = true
  np : d.ps.length = d.d.np
  nn : d.N.length = d.d.nn
/-- how a def binds positional arguments -/
inductive Bd (K : PySem.W.Frag) (d : Dfs) (pb : List D → Option (List D)) : Prop where
  | plain (b : Binds K d.fd d.ps []) (h : ∀ ds, pb ds = if ds.length = d.ps.length then some ds else none)
  | star (ps0 : List Str) (pv : Str) (e : d.ps = ps0 ++ [pv]) (hb : ∀ (kV doc pm : Value) (an : Option Addr) (cdv ct : Value) (us rest : List Value), us.length = ps0.length →
      bindArgs (PySem.W.fnOf d.x d.qual (defArgs d.st) (defBody d.st) (defScope d.st) .none kV doc pm an cdv ct) ⟨us ++ rest, []⟩ = (newTuple rest >>= fun t => pure (ps0.zip us ++ [(pv, t)])))
      (h : ∀ ds, pb ds = if ps0.length ≤ ds.length ∧ ds.length - ps0.length ≤ sizeLine then some (ds.take ps0.length ++ [.tup (ds.drop ps0.length)]) else none)
  | no (h : ∀ ds, pb ds = none)
/-- values by their places -/
def pick {α : Type} (z : α) (ord : List Nat) (l : List α) : List α := ord.map fun j => l.getD j z
/-- how a def binds positional values together with the keywords ks -/
structure KbOk (K : PySem.W.Frag) (c : Rc) (d : Dfs) (ks : List Str) (ds zs es : List D) : Prop where
  ex : ∃ (A : Addr) (n : Nat) (ord : List Nat) (ms : List Str) (mvs : List Value) (mV : List V) (mD : List D), d.fd.kwdefaults = .ref A ∧ (∀ q ∈ ms.zip mvs, PySem.W.nsIn K A q.1 = some (some q.2)) ∧ Vals mV mvs ∧ (∀ w, rvs c w mD mV) ∧ zs.length = ks.length ∧
    ((ds.length = n ∧ ord.length = d.ps.length ∧ es = pick .non ord (ds ++ zs ++ mD) ∧ ∀ (doc pm : Value) (an : Option Addr) (cdv ct : Value) (us ws : List Value), us.length = n → ws.length = ks.length →
        Chn A (ms.zip mvs) (bindArgs (PySem.W.fnOf d.x d.qual (defArgs d.st) (defBody d.st) (defScope d.st) .none (.ref A) doc pm an cdv ct) ⟨us, ks.zip ws⟩) (pure (d.ps.zip (pick .none ord (us ++ ws ++ mvs)))))
    ∨ (∃ ps0 pv, d.ps = ps0 ++ [pv] ∧ ord.length = ps0.length ∧ n ≤ ds.length ∧ ds.length - n ≤ sizeLine ∧ es = pick .non ord (ds.take n ++ zs ++ mD) ++ [.tup (ds.drop n)] ∧ ∀ (doc pm : Value) (an : Option Addr) (cdv ct : Value) (us more ws : List Value), us.length = n → ws.length = ks.length →
        Chn A (ms.zip mvs) (bindArgs (PySem.W.fnOf d.x d.qual (defArgs d.st) (defBody d.st) (defScope d.st) .none (.ref A) doc pm an cdv ct) ⟨us ++ more, ks.zip ws⟩) (newTuple more >>= fun t => pure (ps0.zip (pick .none ord (us ++ ws ++ mvs)) ++ [(pv, t)]))))
theorem vals_getD : ∀ {vs : List V} {us : List Value}, Vals vs us → ∀ j : Nat, RelV (vs.getD j .non) (us.getD j .none)
  | _, _, .nil, _ => by simp only [List.getD_nil]; rfl
  | _, _, .cons h t, 0 => by simpa only [List.getD_cons_zero] using h
  | _, _, .cons h t, j + 1 => by simpa only [List.getD_cons_succ] using vals_getD t j
theorem pick_vals {vs : List V} {us : List Value} (h : Vals vs us) : ∀ ord : List Nat, Vals (pick .non ord vs) (pick .none ord us)
  | [] => .nil
  | j :: ord => .cons (vals_getD h j) (pick_vals h ord)
theorem rvs_getD {c : Rc} {w : Wd} : ∀ {ds : List D} {vs : List V}, rvs c w ds vs → ∀ j : Nat, rv c w (ds.getD j .non) (vs.getD j .non)
  | [], vs, h, j => by
    simp only [rvs] at h
    subst h
    simp only [List.getD_nil, rv]
  | d :: ds, vs, h, j => by
    simp only [rvs] at h
    obtain ⟨v, r, rfl, h1, h2⟩ := h
    cases j with
    | zero => simpa only [List.getD_cons_zero] using h1
    | succ j => simpa only [List.getD_cons_succ] using rvs_getD h2 j
theorem pick_rvs {c : Rc} {w : Wd} {ds : List D} {vs : List V} (h : rvs c w ds vs) : ∀ ord : List Nat, rvs c w (pick .non ord ds) (pick .non ord vs)
  | [] => .nil
  | j :: ord => .cons (rvs_getD h j) (pick_rvs h ord)
theorem pick_len {α : Type} {z : α} {ord : List Nat} {l : List α} : (pick z ord l).length = ord.length := List.length_map _
abbrev adr (defs : List Dfs) (i : Nat) : Addr := ((defs[i]?).map (·.f)).getD 0
structure WOk (K : PySem.W.Frag) (mg : Str → Option Value) (G : Gt) (cl : Nat → Addr) (xn : Xn) (defs : List Dfs) : Prop where
  ok : ∀ (i : Nat) (d : Dfs), defs[i]? = some d → DfsOk K G d ∧ Bd K d (G.pb i)
  gl : ∀ x i, gvFn (G.gl.lookup x) = some i → mg x = some (.ref (adr defs i)) ∧ PySem.W.keepIn K (.ref (adr defs i)) = true
  ms : ∀ kc m i, G.ms.lookup (kc, m) = some i → Cls K (cl kc) ∧ Meth K (cl kc) m (adr defs i)
  cs : ∀ kc m i, G.cs.lookup (kc, m) = some i → ∃ mc p, ClX.CRead K (cl kc) mc ∧ ClX.CMet K (cl kc) mc m p (adr defs i)
  mks : ∀ kc i, G.mks.lookup kc = some i → Mk K (cl kc) (adr defs i)
  ob : ∀ kc m i, G.ob.lookup (kc, m) = some i → OpK K (cl kc) m (adr defs i)
  ou : ∀ kc m i, G.ou.lookup (kc, m) = some i → UnK K (cl kc) m (adr defs i)
  cv : ∀ kc f d, G.cv.lookup (kc, f) = some d → ∃ mc v u, ClX.CRead K (cl kc) mc ∧ ClX.CVal K (cl kc) mc f v u ∧ ∀ w, rv ⟨K, cl, xn⟩ w d v
  vl : ∀ x d, gvVal (G.gl.lookup x) = some d → ∃ u v, mg x = some u ∧ RelV v u ∧ ∀ w, rv ⟨K, cl, xn⟩ w d v
  kb : ∀ (i : Nat) (d : Dfs), defs[i]? = some d → ∀ ks ds zs es, G.pk i ks ds zs = some es → KbOk K ⟨K, cl, xn⟩ d ks ds zs es
  pn : ∀ (i : Nat), defs[i]? = none → ∀ ks ds zs, G.pk i ks ds zs = none
  bl : ∀ x, G.bl.contains x = true → mg x = none
  F : Ff ⟨K, cl, xn⟩ G.F
  T : Kf ⟨K, cl, xn⟩ G.T
  dn : ∀ kc, G.dn.contains kc = true → NeD K (cl kc)
section
variable {Pg : Program} {w : World} {K : PySem.W.Frag} {mg : Str → Option Value} {base : Heap} {G : Gt} {cl : Nat → Addr} {xn : Xn} {defs : List Dfs} {fu : Nat}
/-- the defs that make lambdas: their code objects, their tables -/
def LmOk (base : Heap) (mg : Str → Option Value) (xn : Xn) (G : Gt) (defs : List Dfs) : Prop := ∀ (i : Nat) (d : Dfs), defs[i]? = some d → G.lam.contains (d.qual ++ ".<locals>.") = true → ∃ cd P, d.fd.code = .ref cd ∧ LamX.TabB base mg cd P ∧
  (P, (d.qual ++ ".<locals>.") ++ "<lambda>") ∈ xn.tb ∧ ∀ p ∈ xn.tb, p.1 = P → p.2 = (d.qual ++ ".<locals>.") ++ "<lambda>"
/-- at level k all is as it says -/
def FrOk (Pg : Program) (w : World) (K : PySem.W.Frag) (mg : Str → Option Value) (base : Heap) (G : Gt) (cl : Nat → Addr) (xn : Xn) (defs : List Dfs) (fu k : Nat) : Prop :=
  ∀ i, FnR Pg w K mg base (L2.CX Pg w) k (adr defs i) (spR ⟨K, cl, xn⟩ (posM G (rawL G (defs.map (·.d)) fu k) i))
theorem frOk_no {k : Nat} (h : rawL G (defs.map (·.d)) fu k = noF) : FrOk Pg w K mg base G cl xn defs fu k := fun i A outer s H us vs Q E _ _ _ ⟨w0, ds, st, _, _, _, hp⟩ => by
  rw [h] at hp
  unfold posM at hp
  split at hp <;> exact hp.elim
/-- .. of calls with keywords -/
def FrKOk (Pg : Program) (w : World) (K : PySem.W.Frag) (mg : Str → Option Value) (base : Heap) (G : Gt) (cl : Nat → Addr) (xn : Xn) (defs : List Dfs) (fu k : Nat) : Prop :=
  ∀ i ks, FnK Pg w K mg base (L2.CX Pg w) k (adr defs i) ks (spK ⟨K, cl, xn⟩ (posK G (rawL G (defs.map (·.d)) fu k) i ks))
theorem frKOk_no {k : Nat} (h : rawL G (defs.map (·.d)) fu k = noF) : FrKOk Pg w K mg base G cl xn defs fu k := fun i ks A outer s H us ws vs zs Q E _ _ _ _ ⟨w0, ds, es, st, _, _, _, _, hp⟩ => by
  rw [h] at hp
  unfold posK at hp
  split at hp <;> exact hp.elim
theorem gok_of (hw : WOk K mg G cl xn defs) {k : Nat} (h1 : FrOk Pg w K mg base G cl xn defs fu (k + 1)) (h0 : FrOk Pg w K mg base G cl xn defs fu k) (j1 : FrKOk Pg w K mg base G cl xn defs fu (k + 1)) (j0 : FrKOk Pg w K mg base G cl xn defs fu k) {X : Cx} (e1 : X.prog = Pg) (e2 : X.w = w) (e3 : X.K = K) (e4 : X.mg = mg) (e5 : X.base = base) (hr : Room (k + 1) X.A) (hlm : G.lam.contains X.env.qual = true → ∃ cd P, LamAt X xn cd P ∧ X.env.code = .ref cd) :
    GOk G (lev G (defs.map (·.d)) fu k) cl xn k X := by
  subst e1 e2 e3 e4 e5
  exact ⟨⟨adr defs, h1, h0, hw.gl, hw.ms, hw.cs, hw.mks, hw.ob, hw.ou, j1, j0⟩, hw.cv, hw.vl, hw.bl, hw.F, hw.T, hr, hw.dn, hlm⟩
theorem body_ok (hw : WOk K mg G cl xn defs) (hlm : LmOk base mg xn G defs) {k i : Nat} {d : Dfs} (hd : defs[i]? = some d) (h1 : FrOk Pg w K mg base G cl xn defs fu (k + 1)) (h0 : FrOk Pg w K mg base G cl xn defs fu k) (j1 : FrKOk Pg w K mg base G cl xn defs fu (k + 1)) (j0 : FrKOk Pg w K mg base G cl xn defs fu k)
    (cdv : Value) (hcdv : d.fd.code = cdv) (A : Around) (outer : List Env) (s0 : Shared) (H : Hp) (vs : List V) (Q : VK) (E : XK) (hr : Room (k + 1) (A.deeper (envOfC d.qual (defScope d.st) s0.heap.objs.size d.f cdv)))
    (hsp : spI ⟨K, cl, xn⟩ d.d.np (rawL G (defs.map (·.d)) fu (k + 2) i) vs H Q E) :
    ∃ t, PSs (cxOf (L2.CX Pg w) Pg w K mg base d.N d.qual (defScope d.st) d.f cdv A outer s0 H E) (defBody d.st) t ∧ t { nx := fun _ H' => Q .non H', rt := Q } (L2.start d.N vs) H := by
  obtain ⟨w0, ds, s, hw0, hs, r, hl, hp⟩ := hsp
  have D := (hw.ok i d hd).1
  generalize hX : cxOf (L2.CX Pg w) Pg w K mg base d.N d.qual (defScope d.st) d.f cdv A outer s0 H E = X
  have HX : XOk ⟨d.N, defScope d.st, true, d.qual ++ ".<locals>."⟩ X (fun cls d _ H => E cls d H) := by
    subst hX
    exact ⟨rfl, rfl, D.sc.nd, rfl, fun _ _ => rfl, rfl, takes_of rfl rfl rfl rfl⟩
  have PX : PassesOwn (model X.prog X.w) X.A X.env X.xe := by subst hX; exact passes_of rfl
  have GX : GOk G (lev G (defs.map (·.d)) fu k) cl xn k X := by
    refine gok_of (Pg := Pg) (w := w) (base := base) hw h1 h0 j1 j0 ?_ ?_ ?_ ?_ ?_ ?_ ?_ <;> subst hX <;> first
      | rfl
      | exact hr
      | exact fun hq => let ⟨cd, P, e1, e2, e3, e4⟩ := hlm i d hd hq; ⟨cd, P, ⟨e2, e3, e4⟩, hcdv.symm.trans e1⟩
  have hc : cx X cl xn = ⟨K, cl, xn⟩ := by subst hX; rfl
  refine ⟨_, ckSs_ok d.d.body (defBody d.st) X _ _ HX GX PX D.ck, ?_⟩
  rw [hc]
  have hp' : post ⟨K, cl, xn⟩ (fun cls d _ H => E cls d H) [] w0 (endF d.d.keep s (evSs G (lev G (defs.map (·.d)) fu k) d.d.body (startE d.d.nn ds) s)) Q := by
    have e : rawL G (defs.map (·.d)) fu (k + 2) i ds s = endF d.d.keep s (evSs G (lev G (defs.map (·.d)) fu k) d.d.body (startE d.d.nn ds) s) := by
      show callP G (defs.map (·.d)) (lev G (defs.map (·.d)) fu k) i ds s = _
      unfold callP
      rw [List.getElem?_map, hd]
      show runF G _ d.d ds s = _
      unfold runF
      rw [if_pos hl]
    rw [← e]
    exact hp
  refine ⟨w0, startE d.d.nn ds, s, hw0, hs, re_start r D.nn, ?_⟩
  cases hq : evSs G (lev G (defs.map (·.d)) fu k) d.d.body (startE d.d.nn ds) s with
  | nx env s2 =>
    rw [hq] at hp'
    simp only [endF] at hp'
    split at hp'
    · exact fun w' σ e rs _ => hp' w' _ e rs rv_nonD
    · exact fun w' σ e rs _ => leave_ok hs e rs rv_nonD hp'
  | rt v s2 =>
    rw [hq] at hp'
    simp only [endF] at hp'
    split at hp'
    · exact fun w' v e rs rr => hp' w' v e rs rr
    · exact fun w' v e rs rr => leave_ok hs e rs rr hp'
  | bk _ _ => rw [hq] at hp'; exact hp'.elim
  | ct _ _ => rw [hq] at hp'; exact hp'.elim
  | bad => rw [hq] at hp'; exact hp'.elim
  | ex k es env s2 =>
    rw [hq] at hp'
    exact fun w' dx σ e rs _ x => leaveX_ok (W := fun cls d _ H => E cls d H) (σ := []) hs e rs x hp'
theorem np_of (hw : WOk K mg G cl xn defs) {k i : Nat} {d : Dfs} (hd : defs[i]? = some d) {c : Rc} {W : WX} {σ : L2.St} {w0 : Wd} {ds : List D} {s : Sto} {Q : VK} (hp : post c W σ w0 (rawL G (defs.map (·.d)) fu (k + 2) i ds s) Q) : ds.length = d.d.np := by
  have hp : post c W σ w0 (callP G (defs.map (·.d)) (lev G (defs.map (·.d)) fu k) i ds s) Q := hp
  unfold callP at hp
  rw [List.getElem?_map, hd] at hp
  have hp : post c W σ w0 (runF G (lev G (defs.map (·.d)) fu k) d.d ds s) Q := hp
  unfold runF at hp
  split at hp
  · assumption
  · exact hp.elim
theorem frOk_step (hw : WOk K mg G cl xn defs) (hlm : LmOk base mg xn G defs) {k : Nat} (h1 : FrOk Pg w K mg base G cl xn defs fu (k + 1)) (h0 : FrOk Pg w K mg base G cl xn defs fu k) (j1 : FrKOk Pg w K mg base G cl xn defs fu (k + 1)) (j0 : FrKOk Pg w K mg base G cl xn defs fu k) : FrOk Pg w K mg base G cl xn defs fu (k + 2) := fun i => by
  cases hd : defs[i]? with
  | none =>
    intro A outer s H us vs Q E _ _ _ ⟨w0, ds, st, _, _, _, hp⟩
    unfold posM at hp
    split at hp
    · have hp : post _ _ _ w0 (callP G (defs.map (·.d)) (lev G (defs.map (·.d)) fu k) i _ st) Q := hp
      unfold callP at hp
      rw [List.getElem?_map, hd] at hp
      exact hp.elim
    · exact hp.elim
  | some d =>
    have had : adr defs i = d.f := by simp [adr, hd]
    rw [had]
    obtain ⟨D, B⟩ := hw.ok i d hd
    obtain ⟨oc, od, kV, doc, pm, an, cdv, ct, osl, efd, lk, hcd⟩ := D.fn.ex
    have hcdv : d.fd.code = cdv := by rw [efd]
    have body : BodyOk (L2.CX Pg w) Pg w K mg base (k + 1) d.f d.qual (defBody d.st) (defScope d.st) cdv d.N (spI ⟨K, cl, xn⟩ d.d.np (rawL G (defs.map (·.d)) fu (k + 2) i)) := fun A outer s0 H vs Q E hr hsp => body_ok hw hlm hd h1 h0 j1 j0 cdv hcdv A outer s0 H vs Q E hr hsp
    rcases B with ⟨b, hb⟩ | ⟨ps0, pv, e, hb, h⟩ | h
    · rw [efd] at lk b
      refine (fn_plain (k := k + 1) lk hcd D.sc b (fun vs H Q E ⟨w0, ds, s, _, _, r, hl, _⟩ => by rw [← r.length, hl, D.np]) body).imp fun vs H Q E ⟨w0, ds, st, e0, hs, r, hp⟩ => ?_
      unfold posM at hp
      rw [hb] at hp
      split at hp
      · rename_i es he
        split at he <;> cases he
        exact ⟨w0, ds, st, e0, hs, r, np_of hw hd hp, hp⟩
      · exact hp.elim
    · rw [efd] at lk
      have S := D.sc
      rw [e] at S
      refine (fn_rest (k := k + 1) (ps := ps0) (pv := pv) lk hcd S StX.cxUp (fun us more hl => hb kV doc pm an cdv ct us more hl) body).imp fun vs H Q E ⟨w0, ds, st, e0, hs, r, hp⟩ => ?_
      subst e0
      unfold posM at hp
      rw [h] at hp
      split at hp
      · rename_i es he
        split at he <;> cases he
        rename_i hh
        refine ⟨vs.take ps0.length, vs.drop ps0.length, (List.take_append_drop _ _).symm, by rw [List.length_take, ← r.length]; omega, by rw [List.length_drop, ← r.length]; exact hh.2, fun p hp0 => ?_⟩
        have rt : rv ⟨K, cl, xn⟩ (w0.lay p (.tup (vs.drop ps0.length))) (.tup (ds.drop ps0.length)) (.ref p) := by
          simp only [rv]
          exact ⟨p, _, rfl, .inl upd_same, (r.drop _).mono (.lay hs hp0)⟩
        exact ⟨w0.lay p (.tup (vs.drop ps0.length)), _, st, rfl, .lay hs hp0, ((r.take _).mono (.lay hs hp0)).append (.cons rt .nil), np_of hw hd hp, hp.ext (.lay hs hp0)⟩
      · exact hp.elim
    · intro A outer s H us vs Q E _ _ _ ⟨w0, ds, st, _, _, _, hp⟩
      unfold posM at hp
      rw [h] at hp
      exact hp.elim
theorem frKOk_step (hw : WOk K mg G cl xn defs) (hlm : LmOk base mg xn G defs) {k : Nat} (h1 : FrOk Pg w K mg base G cl xn defs fu (k + 1)) (h0 : FrOk Pg w K mg base G cl xn defs fu k) (j1 : FrKOk Pg w K mg base G cl xn defs fu (k + 1)) (j0 : FrKOk Pg w K mg base G cl xn defs fu k) : FrKOk Pg w K mg base G cl xn defs fu (k + 2) := fun i ks => by
  cases hd : defs[i]? with
  | none =>
    intro A outer s H us ws vs zs Q E _ _ _ _ ⟨w0, ds, es, st, _, _, _, _, hp⟩
    unfold posK at hp
    rw [hw.pn i hd] at hp
    exact hp.elim
  | some d =>
    have had : adr defs i = d.f := by simp [adr, hd]
    rw [had]
    have D := (hw.ok i d hd).1
    intro A outer s H us ws vs zs Q E hr he hv hz hsp
    obtain ⟨w0, ds, es, st, e0, hs, r, rz, hp⟩ := hsp
    unfold posK at hp
    cases hk : G.pk i ks ds es with
    | none => rw [hk] at hp; exact hp.elim
    | some ps =>
      rw [hk] at hp
      obtain ⟨A0, n, ord, ms, mvs, mV, mD, q1, q2, q3, q4, q5, q6⟩ := (hw.kb i d hd ks ds es ps hk).ex
      obtain ⟨oc, od, kV, doc, pm, an, cdv, ct, osl, efd, lk, hcd⟩ := D.fn.ex
      have hcdv : d.fd.code = cdv := by rw [efd]
      have hkv : kV = .ref A0 := by rw [efd] at q1; exact q1
      subst hkv
      have body : BodyOk (L2.CX Pg w) Pg w K mg base (k + 1) d.f d.qual (defBody d.st) (defScope d.st) cdv d.N (spI ⟨K, cl, xn⟩ d.d.np (rawL G (defs.map (·.d)) fu (k + 2) i)) := fun A outer s0 H vs Q E hr hsp => body_ok hw hlm hd h1 h0 j1 j0 cdv hcdv A outer s0 H vs Q E hr hsp
      rw [efd] at lk
      rcases q6 with ⟨l1, l2, rfl, hb⟩ | ⟨ps0, pv, e, l2, l3, l4, rfl, hb⟩
      · refine fn_kw (k := k + 1) (n := n) (ks := ks) (ms := ms.zip mvs) (g := fun us ws => pick .none ord (us ++ ws ++ mvs)) (gV := fun vs zs => pick .non ord (vs ++ zs ++ mV)) lk hcd D.sc q2 (fun us ws a b => hb doc pm an cdv ct us ws a b) (fun a b _ _ => ⟨pick_vals ((a.append b).append q3) ord, by rw [pick_len]; exact l2⟩) body A outer s H us ws vs zs Q E hr he hv hz ⟨by rw [← r.length]; exact l1, by rw [← rz.length]; exact q5, ?_⟩
        exact ⟨w0, _, st, e0, hs, pick_rvs ((r.append rz).append (q4 w0)) ord, np_of hw hd hp, hp⟩
      · have S := D.sc
        rw [e] at S
        subst e0
        refine fn_kwr (k := k + 1) (n := n) (ks := ks) (ps := ps0) (pv := pv) (ms := ms.zip mvs) (g := fun us ws => pick .none ord (us ++ ws ++ mvs)) (gV := fun vs zs => pick .non ord (vs ++ zs ++ mV)) lk hcd S StX.cxUp q2 (fun us more ws a b => hb doc pm an cdv ct us more ws a b) (fun a b _ _ => ⟨pick_vals ((a.append b).append q3) ord, by rw [pick_len]; exact l2⟩) body A outer s w0.H us ws vs zs Q E hr he hv hz
          ⟨vs.take n, vs.drop n, (List.take_append_drop _ _).symm, by rw [List.length_take, ← r.length]; omega, by rw [List.length_drop, ← r.length]; exact l4, by rw [← rz.length]; exact q5, fun p hp0 => ?_⟩
        have rt : rv ⟨K, cl, xn⟩ (w0.lay p (.tup (vs.drop n))) (.tup (ds.drop n)) (.ref p) := by
          simp only [rv]
          exact ⟨p, _, rfl, .inl upd_same, (r.drop _).mono (.lay hs hp0)⟩
        exact ⟨w0.lay p (.tup (vs.drop n)), _, st, rfl, .lay hs hp0, ((pick_rvs (((r.take _).append rz).append (q4 w0)) ord).mono (.lay hs hp0)).append (.cons rt .nil), np_of hw hd hp, hp.ext (.lay hs hp0)⟩
theorem frBoth (hw : WOk K mg G cl xn defs) (hlm : LmOk base mg xn G defs) : ∀ k, FrOk Pg w K mg base G cl xn defs fu k ∧ FrKOk Pg w K mg base G cl xn defs fu k
  | 0 => ⟨frOk_no rfl, frKOk_no rfl⟩
  | 1 => ⟨frOk_no rfl, frKOk_no rfl⟩
  | k + 2 => ⟨frOk_step hw hlm (frBoth hw hlm (k + 1)).1 (frBoth hw hlm k).1 (frBoth hw hlm (k + 1)).2 (frBoth hw hlm k).2, frKOk_step hw hlm (frBoth hw hlm (k + 1)).1 (frBoth hw hlm k).1 (frBoth hw hlm (k + 1)).2 (frBoth hw hlm k).2⟩
theorem frOk (hw : WOk K mg G cl xn defs) (hlm : LmOk base mg xn G defs) : ∀ k, FrOk Pg w K mg base G cl xn defs fu k
  | k => (frBoth hw hlm k).1
end
end Ir
end
section
set_option Elab.async false
set_option linter.all false
set_option maxRecDepth 100000
namespace Ir
open PySem PySem.Spec PyProof.Rows L2

/-! ### where things stand -/
inductive Ad where
  | g (x : Str) | m (x m : Str) | c (x m : Str) | p (x m : Str)
def recA (K : PySem.W.Frag) (p : Addr) (t : String) : Addr := match PySem.W.recIn K p t with
  | some (.ref g :: _) => g
  | _ => 0
def Ad.of (K : PySem.W.Frag) : Ad → Addr
  | .g x => He.ga K x
  | .m x y => He.ma K (He.ga K x) y
  | .c x y => recA K (He.ma K (He.ga K x) y) "classmethod"
  | .p x y => recA K (He.ma K (He.ga K x) y) "property"
/-- how a def binds its positional arguments -/
inductive Bk where
  | plain | star (n : Nat) | no
/-- one form of a call with keywords: n positional values, the rest into a tuple (star), the keywords, what is looked up among the keyword defaults, each parameter's place among positional values, keywords' values, defaults -/
structure Kb where
  n : Nat
  star : Bool
  ks : List Str
  ms : List (Str × D)
  ord : List Nat
/-- one def of the text -/
structure Sd where
  ad : Ad
  x : Str
  qual : Str
  st : Stmt
  ps : List Str
  N : List Str
  bk : Bk
  d : Fd
  kb : List Kb := []
def fnA (K : PySem.W.Frag) (a : Addr) : He.FnW := match K.lookup a with
  | some ⟨_, _, .func fd, _⟩ => some (fd.name, fd.qualname, fd.params, fd.body, fd.scope, fd.globals, fd.closure, fd.builtins)
  | _ => none
def Sd.val (d : Sd) : He.FnW := some (d.x, d.qual, defArgs d.st, .stmts (defBody d.st), defScope d.st, mainGlobals, [], builtinsNs)
def isNV : Value → Bool
  | .none => true
  | _ => false
def Sd.okB (K : PySem.W.Frag) (d : Sd) : Bool := PySem.W.keepIn K (.ref (d.ad.of K)) && (match K.lookup (d.ad.of K) with
  | some ⟨_, _, .func fd, _⟩ => PySem.W.codeIn K fd.code d.qual && isNV fd.defaults
  | _ => false)
def fd0 : FuncData := PySem.W.fnOf "" "" (defArgs (.Pass ⟨0, 0, 0, 0⟩)) [] (defScope (.Pass ⟨0, 0, 0, 0⟩)) .none .none .none .none none .none .none
def fdOf (K : PySem.W.Frag) (a : Addr) : FuncData := match K.lookup a with
  | some ⟨_, _, .func fd, _⟩ => fd
  | _ => fd0
theorem Sd.fun {K : PySem.W.Frag} {d : Sd} (e : fnA K (d.ad.of K) = d.val) (c : d.okB K = true) : Fun K d.x d.qual d.st (d.ad.of K) (fdOf K (d.ad.of K)) := by
  obtain ⟨kp, c2⟩ := He.ba c
  unfold fnA at e
  cases q : K.lookup (d.ad.of K) with
  | none =>
    rw [q] at c2
    cases c2
  | some o =>
    obtain ⟨oc, od, dt, osl⟩ := o
    rw [q] at c2 e
    cases dt with
    | func fd =>
      have hfd : fdOf K (d.ad.of K) = fd := by unfold fdOf; rw [q]
      rw [hfd]
      obtain ⟨n1, n2, n3, n4, n5, n6, n7, n8, n9, n10, n11, n12, n13, n14, n15⟩ := fd
      have e2 : (some (n1, n2, n3, n4, n5, n6, n7, n15) : He.FnW) = some (d.x, d.qual, defArgs d.st, .stmts (defBody d.st), defScope d.st, mainGlobals, [], builtinsNs) := e
      simp only [Option.some.injEq, Prod.mk.injEq] at e2
      obtain ⟨h1, h2, h3, h4, h5, h6, h7, h8⟩ := e2
      subst h1 h2 h3 h4 h5 h6 h7 h8
      have c3 : (PySem.W.codeIn K n13 d.qual && isNV n8) = true := c2
      obtain ⟨k1, k2⟩ := He.ba c3
      have : n8 = .none := by cases n8 <;> first | rfl | cases k2
      subst this
      exact ⟨⟨oc, od, n9, n10, n11, n12, n13, n14, osl, rfl, q, k1⟩, kp⟩
    | _ => cases c2

/-! ### what is told of a law's world -/
structure Ls where
  defs : List Sd
  cls : List Str
  gl : List (Str × Gv)
  bl : List Str
  fl : List (Nat × Str)
  cc : List ((Nat × Nat) × Bool)
  tc : List ((String × Nat) × Bool)
  ic : List ((Nat × String) × Bool)
  ms : List ((Nat × Str) × Nat)
  cs : List ((Nat × Str) × Nat)
  cv : List ((Nat × Str) × D)
  mks : List (Nat × Nat)
  ob : List ((Nat × Str) × Nat)
  ou : List ((Nat × Str) × Nat)
  lam : List Str
  dn : List Nat
def pbOf (d : Option Sd) (ds : List D) : Option (List D) := match d with
  | some d => (match d.bk with
    | .plain => if ds.length = d.ps.length then some ds else none
    | .star n => if n ≤ ds.length ∧ ds.length - n ≤ sizeLine then some (ds.take n ++ [.tup (ds.drop n)]) else none
    | .no => none)
  | none => none
def Kb.fits (b : Kb) (ks : List Str) (ds zs : List D) : Bool := decide (b.ks = ks) && decide (zs.length = ks.length) && (if b.star = true then decide (b.n ≤ ds.length) && decide (ds.length - b.n ≤ sizeLine) else decide (ds.length = b.n))
def Kb.to (b : Kb) (ds zs : List D) : List D := if b.star = true then pick .non b.ord (ds.take b.n ++ zs ++ b.ms.map (·.2)) ++ [.tup (ds.drop b.n)] else pick .non b.ord (ds ++ zs ++ b.ms.map (·.2))
def pkOf (d : Option Sd) (ks : List Str) (ds zs : List D) : Option (List D) := match d with
  | some d => (d.kb.find? fun b => b.fits ks ds zs).map fun b => b.to ds zs
  | none => none
def Ls.G (l : Ls) : Gt where
  gl := l.gl
  bl := l.bl
  F := fun k f => l.fl.contains (k, f)
  T := ⟨fun a b => l.cc.lookup (a, b), fun a b => l.tc.lookup (a, b), fun a b => l.ic.lookup (a, b)⟩
  pb := fun i => pbOf l.defs[i]?
  pk := fun i => pkOf l.defs[i]?
  ms := l.ms
  cs := l.cs
  cv := l.cv
  mks := l.mks
  ob := l.ob
  ou := l.ou
  lam := l.lam
  dn := l.dn
def Ls.cl (l : Ls) (K : PySem.W.Frag) (kc : Nat) : Addr := He.ga K (l.cls.getD kc "")
def Sd.dfs (K : PySem.W.Frag) (d : Sd) : Dfs := ⟨d.ad.of K, fdOf K (d.ad.of K), d.ps, d.N, d.x, d.qual, d.st, d.d⟩
abbrev Ls.dl (l : Ls) (K : PySem.W.Frag) : List Dfs := l.defs.map (Sd.dfs K)
def Ls.ad (l : Ls) (K : PySem.W.Frag) (i : Nat) : Addr := ((l.defs[i]?).map fun d => d.ad.of K).getD 0
theorem Ls.adr_eq (l : Ls) (K : PySem.W.Frag) (i : Nat) : adr (l.dl K) i = l.ad K i := by
  unfold adr Ls.ad Ls.dl
  rw [List.getElem?_map]
  cases l.defs[i]? <;> rfl
mutual
def dvB (l : Ls) (K : PySem.W.Frag) : D → Value → Bool
  | .non, u => isNV u
  | .bl b, u => (match u with
    | .bool c => decide (c = b)
    | _ => false)
  | .int i, u => (match u with
    | .int j _ => decide (j = i)
    | _ => false)
  | .str x, u => (match u with
    | .str y _ => decide (y = x)
    | _ => false)
  | .cls k, u => (match u with
    | .ref a => decide (a = l.cl K k)
    | _ => false)
  | .tup ds, u => (match u with
    | .ref a => (match K.lookup a with
      | some ⟨.type t, _, .seq its _, _⟩ => decide (t = "tuple") && decide (its.size ≤ sizeLine) && dvBs l K ds its.toList
      | _ => false)
    | _ => false)
  | _, _ => false
def dvBs (l : Ls) (K : PySem.W.Frag) : List D → List Value → Bool
  | [], us => us.isEmpty
  | d :: ds, us => (match us with
    | u :: us => dvB l K d u && dvBs l K ds us
    | _ => false)
end
mutual
theorem dvB_ok {l : Ls} {K : PySem.W.Frag} {xn : Xn} : ∀ (d : D) (u : Value), dvB l K d u = true → ∃ v, RelV v u ∧ ∀ w, rv ⟨K, l.cl K, xn⟩ w d v
  | .non, u, h => by
    cases u <;> simp only [dvB, isNV, Bool.false_eq_true] at h
    exact ⟨.non, rfl, fun w => rv_nonD⟩
  | .bl b, u, h => by
    cases u <;> simp only [dvB, Bool.false_eq_true, decide_eq_true_eq] at h
    subst h
    exact ⟨.bl _, rfl, fun w => rv_bl⟩
  | .int i, u, h => by
    cases u <;> simp only [dvB, Bool.false_eq_true, decide_eq_true_eq] at h
    subst h
    exact ⟨.int _, ⟨_, rfl⟩, fun w => rv_int⟩
  | .str x, u, h => by
    cases u <;> simp only [dvB, Bool.false_eq_true, decide_eq_true_eq] at h
    subst h
    exact ⟨.str _, ⟨_, rfl⟩, fun w => rv_str⟩
  | .cls k, u, h => by
    cases u <;> simp only [dvB, Bool.false_eq_true, decide_eq_true_eq] at h
    subst h
    exact ⟨.ref _, rfl, fun w => by simp only [rv]⟩
  | .tup ds, u, h => by
    cases u <;> simp only [dvB, Bool.false_eq_true] at h
    rename_i a
    split at h
    · rename_i t od its n sl hq
      simp only [Bool.and_eq_true, decide_eq_true_eq] at h
      obtain ⟨⟨rfl, h2⟩, h3⟩ := h
      obtain ⟨vs, r1, r2⟩ := dvBs_ok (xn := xn) ds its.toList h3
      refine ⟨.ref a, rfl, fun w => ?_⟩
      simp only [rv]
      exact ⟨a, vs, rfl, .inr ⟨_, its, n, hq, rfl, rfl, h2, r1⟩, r2 w⟩
    · cases h
  | .lst _, u, h => by simp [dvB] at h
  | .klst _, u, h => by simp [dvB] at h
  | .dic _ _, u, h => by simp [dvB] at h
  | .set _, u, h => by simp [dvB] at h
  | .ins _ _ _, u, h => by simp [dvB] at h
  | .ref _, u, h => by simp [dvB] at h
  | .ty _, u, h => by simp [dvB] at h
theorem dvBs_ok {l : Ls} {K : PySem.W.Frag} {xn : Xn} : ∀ (ds : List D) (us : List Value), dvBs l K ds us = true → ∃ vs, Vals vs us ∧ ∀ w, rvs ⟨K, l.cl K, xn⟩ w ds vs
  | [], us, h => by
    cases us with
    | nil => exact ⟨[], .nil, fun w => .nil⟩
    | cons a b => simp [dvBs] at h
  | d :: ds, us, h => by
    cases us with
    | nil => simp [dvBs] at h
    | cons u us =>
      simp only [dvBs, Bool.and_eq_true] at h
      obtain ⟨v, r1, r2⟩ := dvB_ok (xn := xn) d u h.1
      obtain ⟨vs, q1, q2⟩ := dvBs_ok (xn := xn) ds us h.2
      exact ⟨v :: vs, .cons r1 q1, fun w => .cons (r2 w) (q2 w)⟩
end
def eqO := He.eqO
def glB (l : Ls) (K : PySem.W.Frag) (q : Str × Gv) : Bool := match q.2 with
  | .fn i => He.eqO (PySem.W.nsIn K mainGlobals q.1) (some (some (.ref (l.ad K i)))) && PySem.W.keepIn K (.ref (l.ad K i))
  | .val d => (match PySem.W.nsIn K mainGlobals q.1 with
    | some (some u) => dvB l K d u
    | _ => false)
/-- the keyword defaults that a form asks for -/
def kdA (K : PySem.W.Frag) (d : Sd) : Addr := match (fdOf K (d.ad.of K)).kwdefaults with
  | .ref a => a
  | _ => 0
def kv1 (K : PySem.W.Frag) (a : Addr) (x : Str) : Value := match PySem.W.nsIn K a x with
  | some (some u) => u
  | _ => .none
def kbB (l : Ls) (K : PySem.W.Frag) (d : Sd) : Bool := d.kb.isEmpty || ((match (fdOf K (d.ad.of K)).kwdefaults with
  | .ref _ => true
  | _ => false) && d.kb.all fun b => b.ms.all fun q => match PySem.W.nsIn K (kdA K d) q.1 with
    | some (some u) => dvB l K q.2 u
    | _ => false)
def clsB (K : PySem.W.Frag) (C : Addr) : Bool := PySem.W.plainGet K C Str.empty && (PySem.W.hasDictIn K C && (PySem.W.plainOver K C && He.eqO (PySem.W.findIn K (.ref C) "__setattr__") (some (some (.builtin "object.__setattr__")))))
theorem clsB_ok {K : PySem.W.Frag} {C : Addr} (h : clsB K C = true) : Cls K C := by
  obtain ⟨a, h⟩ := He.ba h
  obtain ⟨b, h⟩ := He.ba h
  obtain ⟨c, d⟩ := He.ba h
  exact ⟨a, b, c, He.eqO_ok d⟩
def kcB (K : PySem.W.Frag) (C : Addr) : Bool := clsB K C && (He.eqO (PySem.W.findIn K (.ref C) "__class__") (some (some (.builtin "object.__class__"))) && (He.eqO (PySem.W.specialIn K (.builtin "object.__class__") "__get__") (some (some (.builtin "getset_descriptor.__get__"))) &&
  (decide (PySem.W.takesIn K (.builtin "object.__class__") = some true) && decide (PySem.W.mroIn K C (.type "object") = some true))))
theorem kcB_ok {K : PySem.W.Frag} {C : Addr} (h : kcB K C = true) : Kc K C := by
  obtain ⟨a, h⟩ := He.ba h
  obtain ⟨b, h⟩ := He.ba h
  obtain ⟨c, h⟩ := He.ba h
  obtain ⟨d, e⟩ := He.ba h
  exact ⟨clsB_ok a, He.eqO_ok b, He.eqO_ok c, of_decide_eq_true d, of_decide_eq_true e⟩
def ofM (K : PySem.W.Frag) (C : Addr) (m : Str) (f : Addr) : Bool := He.eqO (PySem.W.findIn K (.ref C) m) (some (some (.ref f))) && PySem.W.isFn K (.ref f)
def mcOf (K : PySem.W.Frag) (C : Addr) : Value := (PySem.W.typeIn K (.ref C)).getD .none
def crB (K : PySem.W.Frag) (C : Addr) : Bool := PySem.W.readsIn K C (mcOf K C) && He.eqO (PySem.W.specialIn K (.ref C) "__getattribute__") (some (some (.builtin "type.__getattribute__")))
def isRefs (vs : Option (List Value)) (g : Addr) : Bool := match vs with
  | some (.ref f :: _) => decide (f = g)
  | _ => false
def isGet (K : PySem.W.Frag) (C p : Addr) : Option PySem.W.CFound → Bool
  | some (.get a b c d) => decide (a = .builtin "classmethod.__get__") && decide (b = .ref p) && isNV c && decide (d = .ref C)
  | _ => false
def csB (l : Ls) (K : PySem.W.Frag) (q : (Nat × Str) × Nat) : Bool := crB K (l.cl K q.1.1) && isGet K (l.cl K q.1.1) (He.ma K (l.cl K q.1.1) q.1.2) (PySem.W.findCls K (.ref (l.cl K q.1.1)) (mcOf K (l.cl K q.1.1)) q.1.2) && isRefs (PySem.W.recIn K (He.ma K (l.cl K q.1.1) q.1.2) "classmethod") (l.ad K q.2) && PySem.W.fnIn K (l.ad K q.2)
def cvB (l : Ls) (K : PySem.W.Frag) (q : (Nat × Str) × D) : Bool := crB K (l.cl K q.1.1) && (match PySem.W.findCls K (.ref (l.cl K q.1.1)) (mcOf K (l.cl K q.1.1)) q.1.2 with
  | some (.val u) => dvB l K q.2 u
  | _ => false)
def msB (l : Ls) (K : PySem.W.Frag) (q : (Nat × Str) × Nat) : Bool := clsB K (l.cl K q.1.1) && (ofM K (l.cl K q.1.1) q.1.2 (l.ad K q.2) && PySem.W.keepIn K (.ref (l.ad K q.2)))
def mkB (l : Ls) (K : PySem.W.Frag) (q : Nat × Nat) : Bool := PySem.W.makesIn K (l.cl K q.1) && (ofM K (l.cl K q.1) "__init__" (l.ad K q.2) && PySem.W.keepIn K (.ref (l.cl K q.1)))
def dnB (l : Ls) (K : PySem.W.Frag) (kc : Nat) : Bool := He.eqO (PySem.W.findIn K (.ref (l.cl K kc)) "__ne__") (some (some (.builtin "object.__ne__"))) && decide (PySem.W.mroIn K (l.cl K kc) (.type "object") = some true) && plainTs.all fun n => decide (PySem.W.subIn K (.ref (l.cl K kc)) (.type n) = some false)
def wokB (l : Ls) (K : PySem.W.Frag) : Bool :=
  (l.defs.all fun d => d.okB K) && (l.gl.all (glB l K)) && (l.bl.all fun x => He.eqO (PySem.W.nsIn K mainGlobals x) (some none)) && (l.fl.all fun q => clsB K (l.cl K q.1) && He.eqO (PySem.W.findIn K (.ref (l.cl K q.1)) q.2) (some none))
  && (l.cc.all fun q => kcB K (l.cl K q.1.1) && decide (PySem.W.kitOne K (.ref (l.cl K q.1.1)) (.ref (l.cl K q.1.2)) = some q.2)) && (l.tc.all fun q => decide (PySem.W.kitOne K (.type q.1.1) (.ref (l.cl K q.1.2)) = some q.2))
  && (l.ic.all fun q => kcB K (l.cl K q.1.1) && decide (PySem.W.kitOne K (.ref (l.cl K q.1.1)) (.type q.1.2) = some q.2))
  && (l.ms.all (msB l K)) && (l.cs.all (csB l K)) && (l.cv.all (cvB l K)) && (l.mks.all (mkB l K)) && (l.ob.all fun q => PySem.W.selfFirst K (l.cl K q.1.1) && ofM K (l.cl K q.1.1) q.1.2 (l.ad K q.2)) && (l.ou.all fun q => ofM K (l.cl K q.1.1) q.1.2 (l.ad K q.2) && PySem.W.fnIn K (l.ad K q.2)) && (l.dn.all (dnB l K)) && (l.defs.all (kbB l K))
/-- what does not lean on the heap -/
structure SdOk (G : Gt) (d : Sd) : Prop where
  sc : FnScope d.N d.ps (defScope d.st)
  ck : ckSs G ⟨d.N, defScope d.st, true, d.qual ++ ".<locals>."⟩ d.d.body (defBody d.st) = true
  np : d.ps.length = d.d.np
  nn : d.N.length = d.d.nn
  bd : match d.bk with
    | .plain => ∀ (kV doc pm : Value) (an : Option Addr) (cdv ct : Value) (us : List Value), us.length = d.ps.length → bindArgs (PySem.W.fnOf d.x d.qual (defArgs d.st) (defBody d.st) (defScope d.st) .none kV doc pm an cdv ct) ⟨us, []⟩ = pure (d.ps.zip us)
    | .star n => ∃ ps0 pv, d.ps = ps0 ++ [pv] ∧ ps0.length = n ∧ ∀ (kV doc pm : Value) (an : Option Addr) (cdv ct : Value) (us rest : List Value), us.length = ps0.length →
      bindArgs (PySem.W.fnOf d.x d.qual (defArgs d.st) (defBody d.st) (defScope d.st) .none kV doc pm an cdv ct) ⟨us ++ rest, []⟩ = (newTuple rest >>= fun t => pure (ps0.zip us ++ [(pv, t)]))
    | .no => True
  kb : ∀ b ∈ d.kb, (b.star = false → b.ord.length = d.ps.length ∧ ∀ (A : Addr) (doc pm : Value) (an : Option Addr) (cdv ct : Value) (us ws mvs : List Value), us.length = b.n → ws.length = b.ks.length → mvs.length = b.ms.length →
        Chn A ((b.ms.map (·.1)).zip mvs) (bindArgs (PySem.W.fnOf d.x d.qual (defArgs d.st) (defBody d.st) (defScope d.st) .none (.ref A) doc pm an cdv ct) ⟨us, b.ks.zip ws⟩) (pure (d.ps.zip (pick .none b.ord (us ++ ws ++ mvs)))))
    ∧ (b.star = true → ∃ ps0 pv, d.ps = ps0 ++ [pv] ∧ b.ord.length = ps0.length ∧ ∀ (A : Addr) (doc pm : Value) (an : Option Addr) (cdv ct : Value) (us more ws mvs : List Value), us.length = b.n → ws.length = b.ks.length → mvs.length = b.ms.length →
        Chn A ((b.ms.map (·.1)).zip mvs) (bindArgs (PySem.W.fnOf d.x d.qual (defArgs d.st) (defBody d.st) (defScope d.st) .none (.ref A) doc pm an cdv ct) ⟨us ++ more, b.ks.zip ws⟩) (newTuple more >>= fun t => pure (ps0.zip (pick .none b.ord (us ++ ws ++ mvs)) ++ [(pv, t)])))
theorem lk_all {α β : Type} [BEq α] [LawfulBEq α] {l : List (α × β)} {p : α × β → Bool} (h : l.all p = true) {a : α} {b : β} (e : l.lookup a = some b) : p (a, b) = true := by
  rw [List.all_eq_true] at h
  refine h _ ?_
  clear h
  induction l with
  | nil => simp at e
  | cons q l ih =>
    obtain ⟨x, y⟩ := q
    rw [List.lookup_cons] at e
    split at e
    · rename_i hb
      cases e
      have := eq_of_beq hb
      subst this
      exact List.mem_cons_self
    · exact List.mem_cons_of_mem _ (ih e)
theorem ofM_ok {K : PySem.W.Frag} {C f : Addr} {m : Str} (h : ofM K C m f = true) : PySem.W.findIn K (.ref C) m = some (some (.ref f)) ∧ PySem.W.isFn K (.ref f) = true := by
  obtain ⟨a, b⟩ := He.ba h
  exact ⟨He.eqO_ok a, b⟩
theorem crB_ok {K : PySem.W.Frag} {C : Addr} (h : crB K C = true) : ClX.CRead K C (mcOf K C) := by
  obtain ⟨a, b⟩ := He.ba h
  exact ⟨a, He.eqO_ok b⟩
theorem isRefs_ok {vs : Option (List Value)} {g : Addr} (h : isRefs vs g = true) : ∃ rest, vs = some (.ref g :: rest) := by
  unfold isRefs at h
  split at h
  · simp only [decide_eq_true_eq] at h
    subst h
    exact ⟨_, rfl⟩
  · cases h
theorem isGet_ok {K : PySem.W.Frag} {C p : Addr} {o : Option PySem.W.CFound} (h : isGet K C p o = true) : o = some (.get (.builtin "classmethod.__get__") (.ref p) .none (.ref C)) := by
  unfold isGet at h
  split at h
  · rename_i a b c d
    simp only [Bool.and_eq_true, decide_eq_true_eq] at h
    obtain ⟨⟨⟨rfl, rfl⟩, h3⟩, rfl⟩ := h
    have : c = .none := by cases c <;> first | rfl | cases h3
    rw [this]
  · cases h
theorem wok_of {l : Ls} {K : PySem.W.Frag} {h : Heap} {mg : Str → Option Value} {xn : Xn} (X : K.In h) (Gn : h.Ns mainGlobals mg) (hB : wokB l K = true) (hv : (l.defs.map fun d => fnA K (d.ad.of K)) = l.defs.map Sd.val) (hs : ∀ (i : Nat) (d : Sd), l.defs[i]? = some d → SdOk l.G d) :
    WOk K mg l.G (l.cl K) xn (l.dl K) := by
  simp only [wokB, Bool.and_eq_true] at hB
  obtain ⟨⟨⟨⟨⟨⟨⟨⟨⟨⟨⟨⟨⟨⟨b1, b2⟩, b3⟩, b4⟩, b5⟩, b6⟩, b7⟩, b8⟩, b9⟩, b10⟩, b11⟩, b12⟩, b13⟩, b14⟩, b15⟩ := hB
  constructor
  · intro i d hd
    unfold Ls.dl at hd
    rw [List.getElem?_map] at hd
    obtain ⟨sd, h1, rfl⟩ := Option.map_eq_some_iff.mp hd
    have S := hs i sd h1
    have F : Fun K sd.x sd.qual sd.st (sd.ad.of K) (fdOf K (sd.ad.of K)) := by
      refine Sd.fun ?_ (List.all_eq_true.mp b1 sd (List.mem_of_getElem? h1))
      have e2 : (l.defs.map fun d => fnA K (d.ad.of K))[i]? = (l.defs.map Sd.val)[i]? := by rw [hv]
      rw [List.getElem?_map, List.getElem?_map, h1] at e2
      exact Option.some.inj e2
    refine ⟨⟨F, S.sc, S.ck, S.np, S.nn⟩, ?_⟩
    have hpb : l.G.pb i = pbOf (some sd) := by show pbOf l.defs[i]? = _; rw [h1]
    rw [hpb]
    have bd := S.bd
    cases hk : sd.bk with
    | plain =>
      rw [hk] at bd
      exact .plain (F.binds bd) fun ds => by simp only [pbOf, hk]; rfl
    | star n =>
      rw [hk] at bd
      obtain ⟨ps0, pv, e1, e2, e3⟩ := bd
      subst e2
      exact .star ps0 pv e1 e3 fun ds => by simp only [pbOf, hk]
    | no => exact .no fun ds => by simp only [pbOf, hk]
  · intro x i e
    rw [Ls.adr_eq]
    cases q : l.G.gl.lookup x with
    | none => rw [q] at e; cases e
    | some v =>
      rw [q] at e
      cases v with
      | val d => cases e
      | fn j =>
        cases e
        obtain ⟨h1, h2⟩ := He.ba (show (He.eqO (PySem.W.nsIn K mainGlobals x) (some (some (.ref (l.ad K i)))) && PySem.W.keepIn K (.ref (l.ad K i))) = true from lk_all (p := glB l K) b2 q)
        exact ⟨PySem.W.mg_of X Gn (He.eqO_ok h1), h2⟩
  · intro kc m i e
    rw [Ls.adr_eq]
    have z : msB l K ((kc, m), i) = true := lk_all b8 e
    obtain ⟨h1, h2⟩ := He.ba z
    obtain ⟨h3, h4⟩ := He.ba h2
    obtain ⟨h5, h6⟩ := ofM_ok h3
    exact ⟨clsB_ok h1, h5, h6, h4⟩
  · intro kc m i e
    rw [Ls.adr_eq]
    have z : csB l K ((kc, m), i) = true := lk_all b9 e
    simp only [csB, Bool.and_eq_true] at z
    obtain ⟨⟨⟨h1, h2⟩, h3⟩, h4⟩ := z
    exact ⟨_, _, crB_ok h1, isGet_ok h2, isRefs_ok h3, h4⟩
  · intro kc i e
    rw [Ls.adr_eq]
    have z : mkB l K (kc, i) = true := lk_all b11 e
    obtain ⟨h1, h2⟩ := He.ba z
    obtain ⟨h3, h4⟩ := He.ba h2
    obtain ⟨h5, h6⟩ := ofM_ok h3
    exact ⟨h1, h5, h6, h4⟩
  · intro kc m i e
    rw [Ls.adr_eq]
    have z := lk_all b12 e
    obtain ⟨h1, h2⟩ := He.ba z
    obtain ⟨h5, h6⟩ := ofM_ok h2
    exact ⟨h1, h5, h6⟩
  · intro kc m i e
    rw [Ls.adr_eq]
    have z := lk_all b13 e
    obtain ⟨h4, h7⟩ := He.ba z
    obtain ⟨h5, h6⟩ := ofM_ok h4
    exact ⟨h5, h6, h7⟩
  · intro kc f d e
    have z : cvB l K ((kc, f), d) = true := lk_all b10 e
    obtain ⟨h1, h2⟩ := He.ba z
    have h2 : (match PySem.W.findCls K (.ref (l.cl K kc)) (mcOf K (l.cl K kc)) f with
      | some (.val u) => dvB l K d u
      | _ => false) = true := h2
    split at h2
    · rename_i u hu
      obtain ⟨v, r1, r2⟩ := dvB_ok (xn := xn) d u h2
      exact ⟨_, v, u, crB_ok h1, ⟨hu, r1⟩, r2⟩
    · cases h2
  · intro x d e
    cases q : l.G.gl.lookup x with
    | none => rw [q] at e; cases e
    | some v =>
      rw [q] at e
      cases v with
      | fn j => cases e
      | val d' =>
        cases e
        have z : glB l K (x, .val d) = true := lk_all (p := glB l K) b2 q
        have z : (match PySem.W.nsIn K mainGlobals x with
          | some (some u) => dvB l K d u
          | _ => false) = true := z
        split at z
        · rename_i u hu
          obtain ⟨v, r1, r2⟩ := dvB_ok (xn := xn) d u z
          exact ⟨u, v, PySem.W.mg_of X Gn hu, r1, r2⟩
        · cases z
  · intro i d hd ks ds zs es hk
    unfold Ls.dl at hd
    rw [List.getElem?_map] at hd
    obtain ⟨sd, h1, rfl⟩ := Option.map_eq_some_iff.mp hd
    have S := hs i sd h1
    have hk : pkOf l.defs[i]? ks ds zs = some es := hk
    rw [h1] at hk
    obtain ⟨b, hb, rfl⟩ := Option.map_eq_some_iff.mp hk
    have hm := List.mem_of_find?_eq_some hb
    have hf := List.find?_some hb
    simp only [Kb.fits, Bool.and_eq_true, decide_eq_true_eq] at hf
    obtain ⟨⟨hf1, hf2⟩, hf3⟩ := hf
    subst hf1
    have z := List.all_eq_true.mp b15 sd (List.mem_of_getElem? h1)
    have hne : sd.kb.isEmpty = false := by
      cases hq : sd.kb with
      | nil => rw [hq] at hm; cases hm
      | cons _ _ => rfl
    simp only [kbB, hne, Bool.false_or, Bool.and_eq_true] at z
    obtain ⟨z1, z2⟩ := z
    have z3 := List.all_eq_true.mp (List.all_eq_true.mp z2 b hm)
    have hkd : (fdOf K (sd.ad.of K)).kwdefaults = .ref (kdA K sd) := by
      unfold kdA
      split at z1
      · rename_i a hq
        rw [hq]
      · cases z1
    -- the defaults' values
    have hd : ∀ ms : List (Str × D), (∀ q ∈ ms, (match PySem.W.nsIn K (kdA K sd) q.1 with
        | some (some u) => dvB l K q.2 u
        | _ => false) = true) → ∃ mvs : List Value, ∃ mV : List V, mvs.length = ms.length ∧ (∀ q ∈ (ms.map (·.1)).zip mvs, PySem.W.nsIn K (kdA K sd) q.1 = some (some q.2)) ∧ Vals mV mvs ∧ ∀ w, rvs ⟨K, l.cl K, xn⟩ w (ms.map (·.2)) mV := fun ms => by
      induction ms with
      | nil => exact fun _ => ⟨[], [], rfl, fun q hq => by simp at hq, .nil, fun w => .nil⟩
      | cons q ms ih =>
        intro h
        obtain ⟨mvs, mV, i1, i2, i3, i4⟩ := ih fun q hq => h q (List.mem_cons_of_mem _ hq)
        have hq := h q (List.mem_cons_self ..)
        split at hq
        · rename_i u hu
          obtain ⟨v, r1, r2⟩ := dvB_ok (xn := xn) q.2 u hq
          refine ⟨u :: mvs, v :: mV, by simp [i1], fun p hp => ?_, .cons r1 i3, fun w => .cons (r2 w) (i4 w)⟩
          rw [List.map_cons, List.zip_cons_cons, List.mem_cons] at hp
          rcases hp with rfl | hp
          · exact hu
          · exact i2 p hp
        · cases hq
    obtain ⟨mvs, mV, i1, i2, i3, i4⟩ := hd b.ms z3
    obtain ⟨k1, k2⟩ := S.kb b hm
    refine ⟨kdA K sd, b.n, b.ord, b.ms.map (·.1), mvs, mV, b.ms.map (·.2), hkd, i2, i3, i4, hf2, ?_⟩
    cases hst : b.star with
    | false =>
      rw [hst] at hf3
      simp only [Bool.false_eq_true, if_false, decide_eq_true_eq] at hf3
      obtain ⟨o1, o2⟩ := k1 hst
      refine .inl ⟨hf3, o1, by simp only [Kb.to, hst, Bool.false_eq_true, if_false], fun doc pm an cdv ct us ws a1 a2 => o2 _ doc pm an cdv ct us ws mvs a1 a2 i1⟩
    | true =>
      rw [hst] at hf3
      simp only [if_true, Bool.and_eq_true, decide_eq_true_eq] at hf3
      obtain ⟨ps0, pv, o0, o1, o2⟩ := k2 hst
      refine .inr ⟨ps0, pv, o0, o1, hf3.1, hf3.2, by simp only [Kb.to, hst, if_true], fun doc pm an cdv ct us more ws a1 a2 => o2 _ doc pm an cdv ct us more ws mvs a1 a2 i1⟩
  · intro i hd ks ds zs
    unfold Ls.dl at hd
    rw [List.getElem?_map, Option.map_eq_none_iff] at hd
    show pkOf l.defs[i]? ks ds zs = none
    rw [hd]
    rfl
  · intro x e
    have e : l.bl.contains x = true := e
    have z := List.all_eq_true.mp b3 x (by simpa using e)
    exact PySem.W.mg_none_of X Gn (He.eqO_ok z)
  · intro k f e
    have e : l.fl.contains (k, f) = true := e
    have z := List.all_eq_true.mp b4 (k, f) (by simpa using e)
    obtain ⟨h1, h2⟩ := He.ba z
    exact ⟨clsB_ok h1, He.eqO_ok h2⟩
  · constructor
    · intro k k' b e
      have z := lk_all b5 (show l.cc.lookup (k, k') = some b from e)
      obtain ⟨h1, h2⟩ := He.ba z
      exact ⟨kcB_ok h1, of_decide_eq_true h2⟩
    · intro n k' b e
      exact of_decide_eq_true (lk_all b6 (show l.tc.lookup (n, k') = some b from e))
    · intro k n b e
      have z := lk_all b7 (show l.ic.lookup (k, n) = some b from e)
      obtain ⟨h1, h2⟩ := He.ba z
      exact ⟨kcB_ok h1, of_decide_eq_true h2⟩
  · intro kc e
    have e : l.dn.contains kc = true := e
    have z := List.all_eq_true.mp b14 kc (by simpa using e)
    obtain ⟨h0, h3⟩ := He.ba z
    obtain ⟨h1, h2⟩ := He.ba h0
    exact ⟨He.eqO_ok h1, of_decide_eq_true h2, fun n hn => of_decide_eq_true (List.all_eq_true.mp h3 n (by simpa using hn))⟩
/-! ### the head's own look -/
abbrev AlI : Type := Bool × List He.FnW
def obsI (l : Ls) (K : PySem.W.Frag) : AlI := (wokB l K, l.defs.map fun d => fnA K (d.ad.of K))
def valI (l : Ls) : AlI := (true, l.defs.map Sd.val)
def obsIG (n : Nat) (l : Ls) (g : Addr → Option Obj) : AlI := obsI l (He.frG g (He.asD g n))
def hookI (n : Nat) (l : Ls) : PySem.W.Hook where
  α := AlI
  obs := fun s => obsIG n l s.heap.get?
  val := fun _ => valI l
  says := fun _ h => ∃ K : PySem.W.Frag, K.In h ∧ obsI l K = valI l
  of := fun _ _ e => ⟨_, He.frG_in, e⟩
  keeps := fun _ _ _ ⟨K, hK, c⟩ k => ⟨K, PySem.W.Frag.In.keeps hK k, c⟩
theorem obsIG_eq {n : Nat} {l : Ls} {g : Addr → Option Obj} {s : Shared} (h : ∀ a, g a = s.heap.get? a) : obsIG n l g = (hookI n l).obs s := by
  have e : g = s.heap.get? := funext h
  rw [e] <;> rfl
/-- the script stands as data -/
theorem script_start {K : PySem.W.Frag} {cl : Nat → Addr} {xn : Xn} {H : Hp} {a : Addr} {ns : List Int} (hT : LamX.Tabs xn.tb H) (hS : SqL K H a (ns.map V.int)) (hN : H a ≠ some (.lst (ns.map V.int))) :
    ∃ w : Wd, w.H = H ∧ Rs ⟨K, cl, xn⟩ w [] ∧ rv ⟨K, cl, xn⟩ w (.klst (ns.map D.int)) (.ref a) := by
  have rr : ∀ (w : Wd) (ns : List Int), rvs ⟨K, cl, xn⟩ w (ns.map D.int) (ns.map V.int) := fun w ns => by
    induction ns with
    | nil => exact .nil
    | cons n ns ih => exact .cons rv_int ih
  refine ⟨⟨fun _ => 0, 0, fun _ => False, H⟩, rfl, ⟨rfl, fun i _ h => absurd h (Nat.not_lt_zero i), fun i h => absurd h (Nat.not_lt_zero i), fun _ z => z.elim, fun i d h => by simp at h, hT, fun _ _ z => z⟩, ?_⟩
  simp only [rv]
  refine ⟨a, _, rfl, ?_, rr _ ns⟩
  rcases hS with (h | h) | h
  · exact absurd h hN
  · exact .inl h
  · exact .inr h
end Ir
end
section
set_option Elab.async false
set_option linter.all false
set_option maxRecDepth 100000
namespace Ir
open PySem PySem.Spec PyProof.Rows L2

/-! ### the head: a law's world, with the tables of code objects of the defs that make lambdas -/
abbrev Sd.ql (d : Sd) : Str := d.qual ++ ".<locals>."
def codeA (K : PySem.W.Frag) (a : Addr) : Addr := match (fdOf K a).code with
  | .ref c => c
  | _ => 0
def isRefV : Value → Bool
  | .ref _ => true
  | _ => false
def Ls.lds (l : Ls) : List Sd := l.defs.filter fun d => l.lam.contains d.ql
/-- the code object, its table -/
def Sd.cT (K : PySem.W.Frag) (d : Sd) : Addr × Addr := (codeA K (d.ad.of K), He.tabOf K (codeA K (d.ad.of K)))
def tabsI (g : Addr → Option Obj) (l : Ls) (K : PySem.W.Frag) : Bool := (l.lds.all fun d => isRefV (fdOf K (d.ad.of K)).code && PySem.W.codeHdIn K (d.cT K).1 (d.cT K).2 && (match g (d.cT K).2 with
  | some o => He.emptyTab o
  | none => false)) && decide (l.lds.map fun d => (d.cT K).2).Nodup
structure SaysI (l : Ls) (h : Heap) (K : PySem.W.Frag) : Prop where
  b : wokB l K = true
  v : (l.defs.map fun d => fnA K (d.ad.of K)) = l.defs.map Sd.val
  ref : ∀ d ∈ l.lds, isRefV (fdOf K (d.ad.of K)).code = true
  hd : ∀ d ∈ l.lds, PySem.W.codeHdIn K (d.cT K).1 (d.cT K).2 = true
  out : ∀ d ∈ l.lds, K.lookup (d.cT K).2 = none
  empty : ∀ d ∈ l.lds, h.get? (d.cT K).2 = some { cls := .none, data := .fields #[] }
  nd : (l.lds.map fun d => (d.cT K).2).Nodup
abbrev AlJ : Type := AlI × Bool
def obsJ (n : Nat) (l : Ls) (g : Addr → Option Obj) : AlJ := (obsI l (He.frT g (cStatics :: He.asD g n)), tabsI g l (He.frT g (cStatics :: He.asD g n)))
def valJ (l : Ls) : AlJ := (valI l, true)
theorem saysI_of {n : Nat} {l : Ls} {h : Heap} (e : obsJ n l h.get? = valJ l) : SaysI l h (He.frT h.get? (cStatics :: He.asD h.get? n)) := by
  generalize hK : He.frT h.get? (cStatics :: He.asD h.get? n) = K at *
  have e1 : obsI l K = valI l := by rw [← hK]; exact congrArg (fun z : AlJ => z.1) e
  have e2 : tabsI h.get? l K = true := by rw [← hK]; exact congrArg (fun z : AlJ => z.2) e
  simp only [tabsI, Bool.and_eq_true, decide_eq_true_eq, List.all_eq_true] at e2
  obtain ⟨e2, e3⟩ := e2
  have key : ∀ d ∈ l.lds, ∃ o, h.get? (d.cT K).2 = some o ∧ He.emptyTab o = true := fun d hd => by
    have z := (e2 d hd).2
    cases q : h.get? (d.cT K).2 with
    | none => rw [q] at z; cases z
    | some o => rw [q] at z; exact ⟨o, rfl, z⟩
  refine ⟨congrArg (fun z : AlI => z.1) e1, congrArg (fun z : AlI => z.2) e1, fun d hd => (e2 d hd).1.1, fun d hd => (e2 d hd).1.2, fun d hd => ?_, fun d hd => ?_, e3⟩
  · obtain ⟨o, q, z⟩ := key d hd
    rw [← hK] at q ⊢
    exact He.frT_none q z
  · obtain ⟨o, q, z⟩ := key d hd
    rw [q, He.emptyTab_eq z]
def hookJ (n : Nat) (l : Ls) : PySem.W.Hook where
  α := AlJ
  obs := fun s => obsJ n l s.heap.get?
  val := fun _ => valJ l
  says := fun _ h => ∃ K : PySem.W.Frag, K.In h ∧ SaysI l h K
  of := fun _ _ e => ⟨_, He.frT_in, saysI_of e⟩
  keeps := fun _ _ _ ⟨K, hK, c⟩ k => ⟨K, PySem.W.Frag.In.keeps hK k, ⟨c.b, c.v, c.ref, c.hd, c.out, fun d hd => k _ _ (c.empty d hd), c.nd⟩⟩
theorem obsJ_eq {n : Nat} {l : Ls} {g : Addr → Option Obj} {s : Shared} (h : ∀ a, g a = s.heap.get? a) : obsJ n l g = (hookJ n l).obs s := by
  have e : g = s.heap.get? := funext h
  rw [e] <;> rfl
/-- the tables by name -/
def Ls.xn (l : Ls) (K : PySem.W.Frag) (nm : Nat → List Str) : Xn := ⟨nm, l.lds.map fun d => ((d.cT K).2, d.ql ++ "<lambda>")⟩
theorem nodup_map_inj {α β : Type} {f : α → β} : ∀ {l : List α}, (l.map f).Nodup → ∀ a ∈ l, ∀ b ∈ l, f a = f b → a = b
  | [], _, a, ha, _, _, _ => by cases ha
  | x :: l, h, a, ha, b, hb, e => by
    rw [List.map_cons, List.nodup_cons] at h
    rcases List.mem_cons.mp ha with rfl | ha
    · rcases List.mem_cons.mp hb with rfl | hb
      · rfl
      · exact absurd (List.mem_map.mpr ⟨b, hb, e.symm⟩) h.1
    · rcases List.mem_cons.mp hb with e2 | hb
      · exact absurd (List.mem_map.mpr ⟨a, ha, e2 ▸ e⟩) h.1
      · exact nodup_map_inj h.2 a ha b hb e
theorem lm_ok {l : Ls} {h : Heap} {K : PySem.W.Frag} {base : Heap} {mg : Str → Option Value} {nm : Nat → List Str} (c : SaysI l h K) (ht : ∀ p ∈ l.lds.map (Sd.cT K), LamX.TabB base mg p.1 p.2) : LmOk base mg (l.xn K nm) l.G (l.dl K) := by
  intro i d hd hq
  unfold Ls.dl at hd
  rw [List.getElem?_map] at hd
  obtain ⟨sd, h1, rfl⟩ := Option.map_eq_some_iff.mp hd
  have hm : sd ∈ l.lds := List.mem_filter.mpr ⟨List.mem_of_getElem? h1, hq⟩
  have hr := c.ref sd hm
  have hc : (fdOf K (sd.ad.of K)).code = .ref (sd.cT K).1 := by
    show _ = Value.ref (codeA K (sd.ad.of K))
    unfold codeA
    cases q : (fdOf K (sd.ad.of K)).code <;> rw [q] at hr <;> first | rfl | cases hr
  refine ⟨(sd.cT K).1, (sd.cT K).2, hc, ht _ (List.mem_map.mpr ⟨sd, hm, rfl⟩), List.mem_map.mpr ⟨sd, hm, rfl⟩, fun p hp e => ?_⟩
  obtain ⟨sd2, hm2, rfl⟩ := List.mem_map.mp hp
  have := nodup_map_inj (f := fun d : Sd => (d.cT K).2) c.nd sd2 hm2 sd hm e
  rw [this]
  rfl
/-! ### the law's own call, where no container's text is under way -/
section
variable {P : Program} {w : World} {K : PySem.W.Frag} {mg mb : Str → Option Value} {CX : CXT} {k : Nat} {fa a : Addr} {cs : List (Addr × Addr)} {sp : Sp} {z0 : Shared} {us : List Value} {ns : List Int}
theorem law_run (KX : K.In z0.heap) (hG : z0.heap.Ns mainGlobals mg) (hB : z0.heap.Ns builtinsNs mb) (hBB : ∀ x : Str, x ≠ "__name__" → mb x = bootBuiltins x) (hL : z0.heap.NoLimit) (hgen : z0.gens = #[])
    (hT : ∀ p ∈ cs, z0.heap.get? p.2 = some { cls := .none, data := .fields #[] }) (nT : ∀ p ∈ cs, K.lookup p.2 = none) (hC : ∀ p ∈ cs, PySem.W.CodeHd z0.heap p.1 p.2)
    (hM : ∃ (bm : Addr) (ob : Obj), mg "__builtins__" = some (.ref bm) ∧ bm ≠ builtinsNs ∧ z0.heap.get? bm = some ob ∧ ob.cls = .type "module" ∧ ob.dict = some builtinsNs ∧ ob.data = .plain)
    (ha : z0.heap.get? a = some { cls := .type "list", data := .seq us.toArray }) (hi : IntsAre us ns) (hl : ns.length ≤ sizeLine) (hr : Ir.Room k callerA)
    (F : ∀ base : Heap, K.In base → base.Ns mainGlobals mg → (∀ p ∈ cs, LamX.TabB base mg p.1 p.2) → Ir.FnR P w K mg base CX k fa sp)
    (hsp : ∀ H : Hp, (∀ p ∈ cs, H p.2 = some (.tbl #[])) → SqL K H a (ns.map V.int) → sp [.ref a] H (fun v _ => v = .bl true) fun _ _ _ => False) (hCX : ∀ H e s', CX [] H z0 (fun _ _ _ => False) e s' → False)
    {H : Hp} (tabH : ∀ p ∈ cs, H p.2 = some (.tbl #[])) (only : ∀ b u, H b = some u → (b = a ∧ K.lookup a = none ∧ ∃ o, o = ({ cls := .type "list", data := .seq us.toArray } : Obj) ∧ u = .frz o (.lst (ns.map V.int))) ∨ (b ∈ cs.map (·.2) ∧ u = .tbl #[])) (hS : SqL K H a (ns.map V.int)) :
    codeAny (model P w) callerA (.call (.ref fa) ⟨[.ref a], []⟩) (fun r s' => r = .ok (.ret (.bool true)) ∧ OldK z0.heap s'.heap ∧ s'.os = z0.os ∧ AllBare s'.gens) z0 := by
  have tabAt : ∀ b, b ∈ cs.map (·.2) → z0.heap.get? b = some { cls := .none, data := .fields #[] } := fun b hb => by
    obtain ⟨p, hp, rfl⟩ := List.mem_map.mp hb
    exact hT p hp
  have clear : ∀ {b : Addr} {o : Obj}, z0.heap.get? b = some o → (∀ xs n, o.data ≠ .seq xs n) → o.data ≠ .fields #[] → H b = none := fun {b o} e n1 n2 => by
    cases q : H b with
    | none => rfl
    | some u =>
      exfalso
      rcases only b u q with ⟨rfl, _, _⟩ | ⟨hb, _⟩
      · rw [ha] at e
        cases e
        exact n1 _ _ rfl
      · rw [tabAt b hb] at e
        cases e
        exact n2 rfl
  have nsOf : ∀ {b : Addr} {m : Str → Option Value}, z0.heap.Ns b m → (hidT z0.heap H).Ns b m := fun {b m} ⟨o, es, ep, e, d, r⟩ => by
    refine ⟨o, es, ep, hidT_get e (clear e (fun xs n z => ?_) fun z => ?_), d, r⟩ <;> (rw [d] at z; cases z)
  have kIn : K.In (hidT z0.heap H) := fun b o e => by
    refine hidT_get (KX b o e) ?_
    cases q : H b with
    | none => rfl
    | some u =>
      exfalso
      rcases only b u q with ⟨rfl, nK, _⟩ | ⟨hb, _⟩
      · rw [nK] at e; cases e
      · obtain ⟨p, hp, rfl⟩ := List.mem_map.mp hb
        rw [nT p hp] at e; cases e
  have mod : L2.Mod K mg (hidT z0.heap H) := by
    obtain ⟨mc, q1, q2⟩ := hL
    exact ⟨kIn, nsOf hG, ⟨mb, nsOf hB, hBB⟩, mc, nsOf q1, q2⟩
  have tabB : ∀ p ∈ cs, LamX.TabB (hidT z0.heap H) mg p.1 p.2 := fun p hp => by
    have hTp := hT p hp
    obtain ⟨o, vs, file, tf, flags, tg, inF, text, tt, e1, r1, r2, r3, r4, r5, r6, r7, r8, hne⟩ := hC p hp
    obtain ⟨bm, ob, b1, b2, b3, b4, b5, b6⟩ := hM
    obtain ⟨og, es, ep, eg, dg, _⟩ := hG
    have notG : bm ≠ mainGlobals := fun q => by
      subst q
      rw [eg] at b3
      cases b3
      rw [dg] at b6
      cases b6
    have notP : bm ≠ p.2 := fun q => by
      subst q
      rw [hTp] at b3
      cases b3
      cases b6
    refine ⟨⟨o, vs, file, tf, flags, tg, inF, text, tt, hidT_get e1 (clear e1 (fun xs n z => ?_) fun z => ?_), r1, r2, r3, r4, r5, r6, r7, r8, hne⟩, ⟨bm, ob, b1, b2, notG, notP, hidT_get b3 (clear b3 (fun xs n z => ?_) fun z => ?_), b4, b5, b6⟩, fun z => ?_⟩
    · rw [r2] at z; cases z
    · rw [r2] at z; cases z; simp at r3
    · rw [b6] at z; cases z
    · rw [b6] at z; cases z
    · rw [z, hTp] at eg
      cases eg
      cases dg
  have hok : HOk P w H z0.heap := fun b u q => by
    rcases only b u q with ⟨rfl, _, o, rfl, rfl⟩ | ⟨hb, rfl⟩
    · exact ⟨ha, by rw [List.length_map]; exact hl, us, _, vals_ints hi, ha⟩
    · exact tabAt b hb
  have e0 : Env0 P w K mg (hidT z0.heap H) callerA [] z0 H := ⟨rfl, mod, fun b o e => of_hidT e, Nat.le_of_eq (hidT_size _ _), trivial, fun b hb => absurd (show b ∈ ([] : List Addr) from hb) List.not_mem_nil, hok, .of_eq hgen⟩
  refine codeAny_mono (F _ kIn (nsOf hG) tabB callerA [] z0 H [.ref a] [.ref a] _ _ hr e0 (.cons rfl .nil) (hsp H tabH hS)) fun r s' h => ?_
  match r, h with
  | .error e, h => exact (hCX H e s' h).elim
  | .ok .next, h => exact h.elim
  | .ok .brk, h => exact h.elim
  | .ok .cont, h => exact h.elim
  | .ok (.ret u), ⟨v, H', os, bare, un, hok', rv', q⟩ =>
    have q : v = .bl true := q
    subst q
    obtain rfl : u = Value.bool true := rv'
    have same : ∀ b o, b ∉ cs.map (·.2) → z0.heap.get? b = some o → s'.heap.get? b = some o := fun b o nb e => by
      cases q : H b with
      | none => exact un.keep b o e q (fun z => absurd (show b ∈ ([] : List Addr) from z) List.not_mem_nil) List.not_mem_nil
      | some u =>
        rcases only b u q with ⟨_, _, ob, _, rfl⟩ | ⟨hb, _⟩
        · have q2 := un.frzs b ob _ q
          have e1 := (hok b _ q).1
          have e2 := (hok' b _ q2).1
          rw [e] at e1
          cases e1
          exact e2
        · exact absurd hb nb
    have grown : ∀ p ∈ cs, ∃ more : Array Value, s'.heap.get? p.2 = some { cls := .none, data := .fields more } := fun p hp => by
      obtain ⟨more, q⟩ := un.tbls p.2 #[] (tabH p hp)
      exact ⟨_, hok' p.2 _ q⟩
    refine ⟨rfl, ⟨fun b o e => ?_, fun b o e => ?_⟩, os, bare⟩
    · by_cases hb : b ∈ cs.map (·.2)
      · obtain ⟨p, hp, rfl⟩ := List.mem_map.mp hb
        obtain ⟨more, hm⟩ := grown p hp
        rw [hT p hp] at e
        cases e
        exact .inr (.inl ⟨((hC p hp).tab (hT p hp)).isCodeTable, rfl, #[], more, rfl, by rw [Array.empty_append]; exact hm⟩)
      · exact .inl (same b o hb e)
    · by_cases hb : b ∈ cs.map (·.2)
      · obtain ⟨p, hp, rfl⟩ := List.mem_map.mp hb
        obtain ⟨more, hm⟩ := grown p hp
        exact ⟨_, hm⟩
      · exact ⟨o, same b o hb e⟩
/-- the script is tracked, or it is of the written part -/
theorem law_callG (KX : K.In z0.heap) (hG : z0.heap.Ns mainGlobals mg) (hB : z0.heap.Ns builtinsNs mb) (hBB : ∀ x : Str, x ≠ "__name__" → mb x = bootBuiltins x) (hL : z0.heap.NoLimit) (hgen : z0.gens = #[])
    (hT : ∀ p ∈ cs, z0.heap.get? p.2 = some { cls := .none, data := .fields #[] }) (nT : ∀ p ∈ cs, K.lookup p.2 = none) (hC : ∀ p ∈ cs, PySem.W.CodeHd z0.heap p.1 p.2)
    (hM : ∃ (bm : Addr) (ob : Obj), mg "__builtins__" = some (.ref bm) ∧ bm ≠ builtinsNs ∧ z0.heap.get? bm = some ob ∧ ob.cls = .type "module" ∧ ob.dict = some builtinsNs ∧ ob.data = .plain)
    (ha : z0.heap.get? a = some { cls := .type "list", data := .seq us.toArray }) (hi : IntsAre us ns) (hl : ns.length ≤ sizeLine) (hr : Ir.Room k callerA)
    (F : ∀ base : Heap, K.In base → base.Ns mainGlobals mg → (∀ p ∈ cs, LamX.TabB base mg p.1 p.2) → Ir.FnR P w K mg base CX k fa sp)
    (hsp : ∀ H : Hp, (∀ p ∈ cs, H p.2 = some (.tbl #[])) → SqL K H a (ns.map V.int) → sp [.ref a] H (fun v _ => v = .bl true) fun _ _ _ => False) (hCX : ∀ H e s', CX [] H z0 (fun _ _ _ => False) e s' → False) :
    codeAny (model P w) callerA (.call (.ref fa) ⟨[.ref a], []⟩) (fun r s' => r = .ok (.ret (.bool true)) ∧ OldK z0.heap s'.heap ∧ s'.os = z0.os ∧ AllBare s'.gens) z0 := by
  have aT : a ∉ cs.map (·.2) := fun hb => by
    obtain ⟨p, hp, e⟩ := List.mem_map.mp hb
    have q := hT p hp
    rw [e, ha] at q
    have q2 : Data.seq us.toArray _ = Data.fields #[] := congrArg Obj.data (Option.some.inj q)
    cases q2
  have inT : ∀ p ∈ cs, p.2 ∈ cs.map (·.2) := fun p hp => List.mem_map.mpr ⟨p, hp, rfl⟩
  cases hK : K.lookup a with
  | some o =>
    have e := KX a o hK
    rw [ha] at e
    cases e
    refine law_run KX hG hB hBB hL hgen hT nT hC hM ha hi hl hr F hsp hCX (H := fun b => if b ∈ cs.map (·.2) then some (.tbl #[]) else none) (fun p hp => if_pos (inT p hp)) (fun b u q => ?_) (.inr ⟨_, us.toArray, _, hK, rfl, rfl, rfl, by rw [List.size_toArray, hi.length]; exact hl, by simpa using vals_ints hi⟩)
    by_cases hb : b ∈ cs.map (·.2)
    · have q : (if b ∈ cs.map (·.2) then some (HO.tbl #[]) else none) = some u := q
      rw [if_pos hb] at q
      exact .inr ⟨hb, (Option.some.inj q).symm⟩
    · have q : (if b ∈ cs.map (·.2) then some (HO.tbl #[]) else none) = some u := q
      rw [if_neg hb] at q
      cases q
  | none =>
    refine law_run KX hG hB hBB hL hgen hT nT hC hM ha hi hl hr F hsp hCX (H := fun b => if b = a then some (.frz { cls := .type "list", data := .seq us.toArray } (.lst (ns.map V.int))) else if b ∈ cs.map (·.2) then some (.tbl #[]) else none)
      (fun p hp => (if_neg fun z : p.2 = a => aT (z ▸ inT p hp)).trans (if_pos (inT p hp))) (fun b u q => ?_) (.inl (.inr ⟨_, if_pos rfl⟩))
    have q : (if b = a then some (HO.frz { cls := .type "list", data := .seq us.toArray } (.lst (ns.map V.int))) else if b ∈ cs.map (·.2) then some (HO.tbl #[]) else none) = some u := q
    by_cases hb : b = a
    · rw [if_pos hb] at q
      exact .inl ⟨hb, hK, _, rfl, (Option.some.inj q).symm⟩
    · rw [if_neg hb] at q
      by_cases hc : b ∈ cs.map (·.2)
      · rw [if_pos hc] at q
        exact .inr ⟨hc, (Option.some.inj q).symm⟩
      · rw [if_neg hc] at q
        cases q
end
/-- a law's def at a heap -/
def LawG (l : PySem.W.OpenLaw) (w : World) (K : PySem.W.Frag) (CX : CXT) (k n : Nat) (mg : Str → Option Value) (fa : Addr) (h : Heap) : Prop :=
  ∃ (cs : List (Addr × Addr)) (sp : Sp), (∀ p ∈ cs, h.get? p.2 = some { cls := .none, data := .fields #[] }) ∧ (∀ p ∈ cs, K.lookup p.2 = none) ∧ (∀ p ∈ cs, PySem.W.CodeHd h p.1 p.2) ∧
    (∀ (H : Hp) (a : Addr) (ns : List Int), ns.length ≤ n → (∀ z ∈ ns, Builtin.Int.intBits z ≤ 1048576) → (∀ p ∈ cs, H p.2 = some (.tbl #[])) → SqL K H a (ns.map V.int) → sp [.ref a] H (fun v _ => v = .bl true) fun _ _ _ => False) ∧
    ∀ base : Heap, K.In base → base.Ns mainGlobals mg → (∀ p ∈ cs, LamX.TabB base mg p.1 p.2) → Ir.FnR l.prog w K mg base CX k fa sp
theorem walk_G {l : PySem.W.OpenLaw} {n k : Nat} {q : Program} {loose : List Str} {XP : (Str → Option Value) → Heap → Prop} {YP : World → Heap → Prop} {d : DefRec} {CX : World → CXT} (hn : l.most = some n) (hn2 : n ≤ sizeLine) (hdf : d.params.defaults = []) (hr : Ir.Room k callerA)
    (F : ∀ (w : World) (mg : Str → Option Value) (fa : Addr) (h : Heap), YP w h → h.Ns mainGlobals mg → mg d.name = some (.ref fa) → ∃ K : PySem.W.Frag, K.In h ∧ LawG l w K (CX w) k n mg fa h)
    (hCX : ∀ (w : World) (H : Hp) (s : Shared) (e : Value) (s' : Shared), CX w [] H s (fun _ _ _ => False) e s' → False) : PySem.W.WalkO q loose XP YP l.row.toRowW d [] (fun f vs => PySem.call f vs) :=
  Att.attach_callB hn hdf fun w s0 z0 mg mb fa o pm cd doc a us ns G Y ho hd hcd hmg hobj hints hlen hbits hg => by
    obtain ⟨K, KX, cs, sp, h1, h2, h3, h4, h5⟩ := F w mg fa _ Y G.T.g hmg
    exact law_callG KX G.T.g G.T.b G.T.builtins G.T.nolimit hg h1 h2 h3 G.T.bmain hobj hints (Nat.le_trans hlen hn2) hr h5 (fun H q1 q2 => h4 H a ns hlen hbits q1 q2) fun H e s' => hCX w H z0 e s'
/-- a law's def by the plain law -/
theorem law_at {lw : PySem.W.OpenLaw} {l : Ls} {d0 : Sd} {fu k n : Nat} (h0 : l.defs[0]? = some d0) (hps : d0.ps = [("script" : Str)]) (hbk : d0.bk = .plain) (hnp : d0.d.np = 1) (hgl : l.gl.lookup ("law" : Str) = some (Gv.fn 0)) (hs : ∀ (i : Nat) (d : Sd), l.defs[i]? = some d → SdOk l.G d)
    (plain : ∀ (ns : List Int) (d : D), ns.length ≤ n → (∀ z ∈ ns, Builtin.Int.intBits z ≤ 1048576) → (d = .klst (ns.map .int) ∨ d = .lst (ns.map .int)) → ∃ s', rawL l.G (l.defs.map (·.d)) fu (k + 2) 0 [d] [] = .ok (.bl true) s')
    {w : World} {mg : Str → Option Value} {fa : Addr} {h : Heap} {K : PySem.W.Frag} (KX : K.In h) (c : SaysI l h K) (Gn : h.Ns mainGlobals mg) (hmg : mg "law" = some (.ref fa)) : LawG lw w K (L2.CX lw.prog w) (k + 2) n mg fa h := by
  have W := wok_of (xn := l.xn K fun _ => []) KX Gn c.b c.v hs
  have hfa : fa = d0.ad.of K := by
    have := (W.gl "law" 0 (by show gvFn (l.gl.lookup ("law" : Str)) = _; rw [hgl]; rfl)).1
    rw [hmg] at this
    have e : fa = adr (l.dl K) 0 := by cases this; rfl
    rw [e, Ls.adr_eq]
    simp [Ls.ad, h0]
  have hd0 : (l.dl K)[0]? = some (d0.dfs K) := by rw [List.getElem?_map, h0]; rfl
  have hP : (l.dl K).map (·.d) = l.defs.map (·.d) := by rw [List.map_map]; rfl
  have S := hs 0 d0 h0
  have F := (W.ok 0 _ hd0).1.fn
  have bd := S.bd
  rw [hbk] at bd
  have hpb : ∀ d : D, l.G.pb 0 [d] = some [d] := fun d => by
    show pbOf l.defs[0]? [d] = _
    rw [h0]
    simp only [pbOf, hbk, hps, List.length_singleton, if_true]
  refine ⟨l.lds.map (Sd.cT K), spR ⟨K, l.cl K, l.xn K fun _ => []⟩ (posM l.G (rawL l.G (l.defs.map (·.d)) fu (k + 2)) 0), fun p hp => ?_, fun p hp => ?_, fun p hp => ?_, fun H a ns hl hb hT hS => ?_, fun base hK hG hTB => ?_⟩
  · obtain ⟨d, hd, rfl⟩ := List.mem_map.mp hp; exact c.empty d hd
  · obtain ⟨d, hd, rfl⟩ := List.mem_map.mp hp; exact c.out d hd
  · obtain ⟨d, hd, rfl⟩ := List.mem_map.mp hp; exact PySem.W.codeHd_of_K KX (c.hd d hd)
  · have hTab : LamX.Tabs (l.xn K fun _ => []).tb H := fun p hp => by
      obtain ⟨d, hd, rfl⟩ := List.mem_map.mp hp
      exact .nil (hT _ (List.mem_map.mpr ⟨d, hd, rfl⟩))
    obtain ⟨w0, d, hw0, hs0, hd0, hdd⟩ : ∃ (w0 : Wd) (d : D), w0.H = H ∧ Rs ⟨K, l.cl K, l.xn K fun _ => []⟩ w0 [] ∧ rv ⟨K, l.cl K, l.xn K fun _ => []⟩ w0 d (.ref a) ∧ (d = .klst (ns.map .int) ∨ d = .lst (ns.map .int)) := by
      by_cases hN : H a = some (.lst (ns.map V.int))
      · have rr : ∀ (w : Wd) (ns : List Int), rvs ⟨K, l.cl K, l.xn K fun _ => []⟩ w (ns.map D.int) (ns.map V.int) := fun w ns => by
          induction ns with
          | nil => exact .nil
          | cons n ns ih => exact .cons rv_int ih
        refine ⟨⟨fun _ => 0, 0, fun b => b = a, H⟩, .lst (ns.map .int), rfl, ⟨rfl, fun i _ h => absurd h (Nat.not_lt_zero i), fun i h => absurd h (Nat.not_lt_zero i), fun b z => ⟨.lst (ns.map V.int), (congrArg H (show b = a from z)).trans hN, fun ps e => (by cases e)⟩, fun i d h => by simp at h, hTab, fun p hp z => ?_⟩, ?_, .inr rfl⟩
        · obtain ⟨ps, e1, _⟩ := hTab p hp
          have z : p.1 = a := z
          rw [z, hN] at e1
          cases e1
        · simp only [rv]
          exact ⟨a, _, rfl, ⟨rfl, hN⟩, rr _ ns⟩
      · obtain ⟨w0, e1, e2, e3⟩ := script_start (cl := l.cl K) hTab hS hN
        exact ⟨w0, _, e1, e2, e3, .inl rfl⟩
    obtain ⟨s', e⟩ := plain ns d hl hb hdd
    refine ⟨w0, [d], [], hw0, hs0, .cons hd0 .nil, ?_⟩
    unfold posM
    rw [hpb]
    dsimp only
    rw [e]
    exact fun w' v _ _ q => by simpa only [rv] using q
  · have z := frOk (Pg := lw.prog) (w := w) (base := base) (fu := fu) W (lm_ok (nm := fun _ => []) c hTB) (k + 2) 0
    have e0 : adr (l.dl K) 0 = fa := by
      have e := (W.gl "law" 0 (by show gvFn (l.gl.lookup ("law" : Str)) = _; rw [hgl]; rfl)).1
      rw [hmg] at e
      cases e
      rfl
    rw [e0, hP] at z
    exact z
end Ir
end
section
set_option Elab.async false
set_option linter.all false
set_option maxRecDepth 100000
namespace Ir
open PySem

/-! ### how defs are evaluated (for the plain laws) -/
theorem okAll_refl : ∀ s : Sto, okAll s s = true
  | [] => rfl
  | a :: s => by simp only [okAll, deq_refl, Bool.true_or, okAll_refl s, Bool.and_self]
theorem leave_same {s : Sto} {d : D} (h : bel s.length d = true) : leave s s d = .ok d s := by
  unfold leave fz
  rw [if_pos h]
  simp only [okAll_refl, if_true, List.take_length]
section
variable {G : Gt} {P : List Fd} {fu k i : Nat} {f : Fd} {ds : List D} {s s2 : Sto} {d : D} {env env1 : Ev}
theorem raw_eq (hf : P[i]? = some f) (hl : ds.length = f.np) : rawL G P fu (k + 2) i ds s = endF f.keep s (evSs G (lev G P fu k) f.body (startE f.nn ds) s) := by
  show callP G P (lev G P fu k) i ds s = _
  unfold callP
  rw [hf]
  show runF G _ f ds s = _
  unfold runF
  rw [if_pos hl]
/-- a def that leaves the store as it is -/
theorem pure_def (hf : P[i]? = some f) (hl : ds.length = f.np) (hk : f.keep = false) (hb : evSs G (lev G P fu k) f.body (startE f.nn ds) s = .rt d s) (hd : bel s.length d = true) : rawL G P fu (k + 2) i ds s = .ok d s := by
  rw [raw_eq hf hl, hb, hk]
  exact leave_same hd
/-- a def that writes at elder objects (which hold no references), and hands out data -/
theorem some_def (hf : P[i]? = some f) (hl : ds.length = f.np) (hk : f.keep = false) (hb : evSs G (lev G P fu k) f.body (startE f.nn ds) s = .rt d s2) (hd : bel s.length d = true) (hs : okAll s s2 = true) : rawL G P fu (k + 2) i ds s = .ok d (s2.take s.length) := by
  rw [raw_eq hf hl, hb, hk]
  show leave s s2 d = _
  unfold leave fz
  rw [if_pos hd]
  simp only [hs, if_true]
variable {a b c : Fst} {t : Ft} {x y : Fe} {sr : SR}
theorem q_seq (h : a env s = .nx env1 s2) : sSeq a b env s = b env1 s2 := by unfold sSeq; rw [h]; rfl
theorem q_seqR (h : a env s = .rt d s2) : sSeq a b env s = .rt d s2 := by unfold sSeq; rw [h]; rfl
theorem q_ifT (h : t env s = .ok true s2) : sIf t a b env s = a env s2 := by unfold sIf; rw [h]; rfl
theorem q_ifF (h : t env s = .ok false s2) : sIf t a b env s = b env s2 := by unfold sIf; rw [h]; rfl
theorem q_set {n : Nat} (h : x env s = .ok d s2) : sAsg x (tgName n) env s = .nx (env.set n (some d)) s2 := by unfold sAsg; rw [h]; rfl
theorem q_ret (h : x env s = .ok d s2) : sRet x env s = .rt d s2 := by unfold sRet; rw [h]; rfl
end
end Ir
end
section
set_option Elab.async false
set_option linter.all false
set_option maxRecDepth 100000
namespace Ir
open PySem
/-! ### evaluation, rule by rule -/
section
variable {G : Gt} {M : Gm} {env : Ev} {s s1 s2 s3 : Sto} {d e v : D} {ds es : List D} {x y z : E} {xs : Es} {b : Bool} {i kc : Nat} {m : Str}
def Vx (G : Gt) (M : Gm) (x : E) (env : Ev) (s : Sto) (d : D) (s' : Sto) : Prop := (evp G M x).1 env s = .ok d s'
def Vt (G : Gt) (M : Gm) (x : E) (env : Ev) (s : Sto) (b : Bool) (s' : Sto) : Prop := (evp G M x).2 env s = .ok b s'
def Vs (G : Gt) (M : Gm) (xs : Es) (env : Ev) (s : Sto) (ds : List D) (s' : Sto) : Prop := seqFs (evs G M xs) env s = .ok ds s'
theorem v_var (h : env[i]? = some (some d)) : Vx G M (.var i) env s d s := by
  show mVar i env s = _
  unfold mVar
  rw [h]
theorem v_con : Vx G M (.con d) env s d s := rfl
theorem v_glb : Vx G M (.glb d) env s d s := rfl
theorem v_bty {n : String} : Vx G M (.bty n) env s (.ty n) s := rfl
theorem m2_eq {o : O2} {fa fb : Fe} (h1 : fa env s = .ok d s1) (h2 : fb env s1 = .ok e s2) (h : ap2 o s2 d e = some (v, s3)) : m2 o fa fb env s = .ok v s3 := by
  unfold m2
  rw [h1]
  show (fb env s1).bind _ = _
  rw [h2]
  show ofPo (ap2 o s2 d e) = _
  rw [h]
  rfl
theorem v_bin {o : O2} (h1 : Vx G M x env s d s1) (h2 : Vx G M y env s1 e s2) (h : ap2 o s2 d e = some (v, s3)) : Vx G M (.x (.bin o) (.cons x (.cons y .nil))) env s v s3 := m2_eq h1 h2 h
theorem v_cmp {o : O2} (h1 : Vx G M x env s d s1) (h2 : Vx G M y env s1 e s2) (h : ap2 o s2 d e = some (v, s3)) : Vx G M (.x (.cmp o) (.cons x (.cons y .nil))) env s v s3 := m2_eq h1 h2 h
theorem v_ix (h1 : Vx G M x env s d s1) (h2 : Vx G M y env s1 e s2) (h : ap2 .ix s2 d e = some (v, s3)) : Vx G M (.x .ix (.cons x (.cons y .nil))) env s v s3 := m2_eq h1 h2 h
theorem u_nil : Vs G M .nil env s [] s := rfl
theorem u_cons (h1 : Vx G M x env s d s1) (h2 : Vs G M xs env s1 ds s2) : Vs G M (.cons x xs) env s (d :: ds) s2 := by
  show sCons (evp G M x).1 (seqFs (evs G M xs)) env s = _
  unfold sCons
  rw [show (evp G M x).1 env s = _ from h1]
  show R.bind (seqFs (evs G M xs) env s1) _ = _
  rw [show seqFs (evs G M xs) env s1 = _ from h2]
  rfl
theorem mn_eq {T : Tab} {o : On} {fs : Fs} (h1 : fs env s = .ok ds s1) (h : apn T o s1 ds = some (v, s2)) : mn T o fs env s = .ok v s2 := by
  unfold mn
  rw [h1]
  show ofPo (apn T o s1 ds) = _
  rw [h]
  rfl
theorem v_bt {o : On} (h1 : Vs G M xs env s ds s1) (h : apn G.T o s1 ds = some (v, s2)) : Vx G M (.x (.bt o) xs) env s v s2 := mn_eq h1 h
theorem v_tup (h1 : Vs G M xs env s ds s1) (h : apn G.T .tup s1 ds = some (v, s2)) : Vx G M (.x .tup xs) env s v s2 := mn_eq h1 h
theorem v_lst {n : Bool} (h1 : Vs G M xs env s ds s1) (h : apn G.T (.lst n) s1 ds = some (v, s2)) : Vx G M (.x (.lst n) xs) env s v s2 := mn_eq h1 h
theorem v_neg (h1 : Vx G M x env s d s1) (h : apn G.T .neg s1 [d] = some (v, s2)) : Vx G M (.x .neg (.cons x .nil)) env s v s2 := mn_eq (u_cons (G := G) (M := M) h1 u_nil) h
theorem pos_eq {r : Nat → List D → Sto → R D} (hp : G.pb i ds = some es) : posM G r i ds s = r i es s := by
  unfold posM
  rw [hp]
theorem v_call (h1 : Vs G M xs env s ds s1) (hp : G.pb i ds = some es) (h : M.raw i es s1 = .ok v s2) : Vx G M (.x (.call i) xs) env s v s2 := by
  show mCal _ (seqFs (evs G M xs)) env s = _
  unfold mCal
  rw [show seqFs (evs G M xs) env s = _ from h1]
  exact (pos_eq hp).trans h
theorem v_own (h1 : Vx G M x env s d s1) (hi : isIns s1 d kc m = true) (h2 : Vs G M xs env s1 ds s2) (hp : G.pb i (d :: ds) = some es) (h : M.raw i es s2 = .ok v s3) : Vx G M (.x (.own kc m i) (.cons x xs)) env s v s3 := by
  show mOwn kc m _ (evp G M x).1 (seqFs (evs G M xs)) env s = _
  unfold mOwn
  rw [show (evp G M x).1 env s = _ from h1]
  show (if isIns s1 d kc m = true then _ else _) = _
  rw [if_pos hi, show seqFs (evs G M xs) env s1 = _ from h2]
  exact (pos_eq hp).trans h
theorem v_cmt {n : Str} (h1 : Vx G M x env s (.cls kc) s1) (h2 : Vs G M xs env s1 ds s2) (hp : G.pb i (.cls kc :: ds) = some es) (h : M.raw i es s2 = .ok v s3) : Vx G M (.x (.cmt kc n i) (.cons x xs)) env s v s3 := by
  show mCmt kc _ (evp G M x).1 (seqFs (evs G M xs)) env s = _
  unfold mCmt
  rw [show (evp G M x).1 env s = _ from h1]
  show (if decide (kc = kc) = true then _ else _) = _
  rw [if_pos (decide_eq_true rfl), show seqFs (evs G M xs) env s1 = _ from h2]
  exact (pos_eq hp).trans h
theorem v_make {n : Bool} (h1 : Vs G M xs env s ds s1) (h : made n kc (posM G M.low i) ds s1 = .ok v s2) : Vx G M (.x (.make n kc i) xs) env s v s2 := by
  show mMake n kc _ (seqFs (evs G M xs)) env s = _
  unfold mMake
  rw [show seqFs (evs G M xs) env s = _ from h1]
  exact h
theorem v_mkv {n : Bool} (h0 : Vx G M x env s (.cls kc) s1) (h1 : Vs G M xs env s1 ds s2) (h : made n kc (posM G M.low i) ds s2 = .ok v s3) : Vx G M (.x (.mkv n kc i) (.cons x xs)) env s v s3 := by
  show mMkv n kc _ (evp G M x).1 (seqFs (evs G M xs)) env s = _
  unfold mMkv
  rw [show (evp G M x).1 env s = _ from h0]
  show (if decide (kc = kc) = true then _ else _) = _
  rw [if_pos (decide_eq_true rfl), show seqFs (evs G M xs) env s1 = _ from h1]
  exact h
theorem v_opk (h1 : Vx G M x env s d s1) (h2 : Vx G M y env s1 e s2) (hi : (isIns s2 d kc "" && isIns s2 e kc "") = true) (hp : G.pb i [d, e] = some es) (h : M.raw i es s2 = .ok v s3) : Vx G M (.x (.opk kc i) (.cons x (.cons y .nil))) env s v s3 := by
  show mOpK kc _ (evp G M x).1 (evp G M y).1 env s = _
  unfold mOpK
  rw [show (evp G M x).1 env s = _ from h1]
  show R.bind ((evp G M y).1 env s1) _ = _
  rw [show (evp G M y).1 env s1 = _ from h2]
  show (if (isIns s2 d kc "" && isIns s2 e kc "") = true then _ else _) = _
  rw [if_pos hi]
  exact (pos_eq hp).trans h
theorem v_fld {f : Str} (h1 : Vx G M x env s d s1) (h : fldOf s1 d G.F f = some v) : Vx G M (.x (.fld f) (.cons x .nil)) env s v s1 := by
  show mFld G.F f (evp G M x).1 env s = _
  unfold mFld
  rw [show (evp G M x).1 env s = _ from h1]
  show (match fldOf s1 d G.F f with | some x => R.ok x s1 | none => .bad) = _
  rw [h]
theorem v_iteT (h1 : Vt G M x env s true s1) (h2 : Vx G M y env s1 d s2) : Vx G M (.ite x y z) env s d s2 := by
  show R.bind ((evp G M x).2 env s) _ = _
  rw [show (evp G M x).2 env s = _ from h1]
  exact h2
theorem v_iteF (h1 : Vt G M x env s false s1) (h2 : Vx G M z env s1 d s2) : Vx G M (.ite x y z) env s d s2 := by
  show R.bind ((evp G M x).2 env s) _ = _
  rw [show (evp G M x).2 env s = _ from h1]
  exact h2
theorem t_yes : Vt G M .yes env s true s := rfl
theorem t_var (h : Vx G M (.var i) env s d s1) (ht : tru s1 d = some b) : Vt G M (.var i) env s b s1 := by
  show R.bind ((evp G M (.var i)).1 env s) _ = _
  rw [show (evp G M (.var i)).1 env s = _ from h]
  show ofTt (tru s1 d) s1 = _
  rw [ht]
  rfl
theorem t_cmp {o : O2} (h : Vx G M (.x (.cmp o) xs) env s (.bl b) s1) : Vt G M (.x (.cmp o) xs) env s b s1 := by
  show R.bind ((evp G M (.x (.cmp o) xs)).1 env s) _ = _
  rw [show (evp G M (.x (.cmp o) xs)).1 env s = _ from h]
  rfl
theorem t_ink {n : Bool} (h : Vx G M (.x (.ink n kc i) xs) env s (.bl b) s1) : Vt G M (.x (.ink n kc i) xs) env s b s1 := by
  show R.bind ((evp G M (.x (.ink n kc i) xs)).1 env s) _ = _
  rw [show (evp G M (.x (.ink n kc i) xs)).1 env s = _ from h]
  rfl
theorem t_val {o : Xop} (ho : evxt o = fun f => tVal f) (h : Vx G M (.x o xs) env s d s1) (ht : tru s1 d = some b) : Vt G M (.x o xs) env s b s1 := by
  show evxt o (evp G M (.x o xs)).1 env s = _
  rw [ho]
  show R.bind ((evp G M (.x o xs)).1 env s) _ = _
  rw [show (evp G M (.x o xs)).1 env s = _ from h]
  show ofTt (tru s1 d) s1 = _
  rw [ht]
  rfl
theorem t_not (h : Vt G M x env s b s1) : Vt G M (.not_ x) env s (!b) s1 := by
  show R.bind ((evp G M x).2 env s) _ = _
  rw [show (evp G M x).2 env s = _ from h]
  rfl
theorem t_andT (h1 : Vt G M x env s true s1) (h2 : Vt G M y env s1 b s2) : Vt G M (.and_ x y) env s b s2 := by
  show R.bind ((evp G M x).2 env s) _ = _
  rw [show (evp G M x).2 env s = _ from h1]
  exact h2
theorem t_andF (h1 : Vt G M x env s false s1) : Vt G M (.and_ x y) env s false s1 := by
  show R.bind ((evp G M x).2 env s) _ = _
  rw [show (evp G M x).2 env s = _ from h1]
  rfl
theorem t_orT (h1 : Vt G M x env s true s1) : Vt G M (.or_ x y) env s true s1 := by
  show R.bind ((evp G M x).2 env s) _ = _
  rw [show (evp G M x).2 env s = _ from h1]
  rfl
theorem t_orF (h1 : Vt G M x env s false s1) (h2 : Vt G M y env s1 b s2) : Vt G M (.or_ x y) env s b s2 := by
  show R.bind ((evp G M x).2 env s) _ = _
  rw [show (evp G M x).2 env s = _ from h1]
  exact h2
/-! statements: the rest's outcome is r -/
variable {r : SR} {ss a c : Stms}
def Ve (G : Gt) (M : Gm) (ss : Stms) (env : Ev) (s : Sto) (r : SR) : Prop := evSs G M ss env s = r
theorem e_nil : Ve G M .nil env s (.nx env s) := rfl
theorem e_set (h : Vx G M x env s d s1) (k : Ve G M ss (env.set i (some d)) s1 r) : Ve G M (.cons (.set i x) ss) env s r := (q_seq (q_set h)).trans k
theorem e_ret (h : Vx G M x env s d s1) : Ve G M (.cons (.ret x) ss) env s (.rt d s1) := q_seqR (q_ret h)
theorem e_expr (h : Vx G M x env s d s1) (k : Ve G M ss env s1 r) : Ve G M (.cons (.expr x) ss) env s r := by
  refine (q_seq (env1 := env) (s2 := s1) ?_).trans k
  show R.st ((evp G M x).1 env s) env _ = _
  rw [show (evp G M x).1 env s = _ from h]
  rfl
theorem e_sub (h1 : Vx G M z env s v s1) (h2 : Vx G M x env s1 d s2) (h3 : Vx G M y env s2 e s3) {s4 : Sto} (h : stL s3 d e v = some s4) (k : Ve G M ss env s4 r) : Ve G M (.cons (.sub x y z) ss) env s r := by
  refine (q_seq (env1 := env) (s2 := s4) ?_).trans k
  show R.st ((evp G M z).1 env s) env _ = _
  rw [show (evp G M z).1 env s = _ from h1]
  show R.st ((evp G M x).1 env s1) env _ = _
  rw [show (evp G M x).1 env s1 = _ from h2]
  show R.st ((evp G M y).1 env s2) env _ = _
  rw [show (evp G M y).1 env s2 = _ from h3]
  show (match stL s3 d e v with | some s => SR.nx env s | none => .bad) = _
  rw [h]
/-- a branch that ends the block -/
theorem e_ifT (h : Vt G M x env s true s1) (k : Ve G M a env s1 (.rt d s2)) : Ve G M (.cons (.if_ x a c) ss) env s (.rt d s2) := q_seqR ((q_ifT h).trans k)
theorem e_ifF (h : Vt G M x env s false s1) (k : Ve G M c env s1 (.rt d s2)) : Ve G M (.cons (.if_ x a c) ss) env s (.rt d s2) := q_seqR ((q_ifF h).trans k)
/-- a branch that goes on -/
theorem e_ifTn {env1 : Ev} (h : Vt G M x env s true s1) (k : Ve G M a env s1 (.nx env1 s2)) (k2 : Ve G M ss env1 s2 r) : Ve G M (.cons (.if_ x a c) ss) env s r := (q_seq ((q_ifT h).trans k)).trans k2
theorem e_ifFn {env1 : Ev} (h : Vt G M x env s false s1) (k : Ve G M c env s1 (.nx env1 s2)) (k2 : Ve G M ss env1 s2 r) : Ve G M (.cons (.if_ x a c) ss) env s r := (q_seq ((q_ifF h).trans k)).trans k2
theorem e_par {j : Nat} (h : Vs G M xs env s [d, e] s1) (k : Ve G M ss ((env.set i (some d)).set j (some e)) s1 r) : Ve G M (.cons (.par i j xs) ss) env s r := by
  refine (q_seq (env1 := (env.set i (some d)).set j (some e)) (s2 := s1) ?_).trans k
  show R.st (seqFs (evs G M xs) env s) env _ = _
  rw [show seqFs (evs G M xs) env s = _ from h]
  rfl
end
end Ir
end
section
set_option Elab.async false
set_option linter.all false
set_option maxRecDepth 100000
namespace Ir
open PySem
section
variable {G : Gt} {M : Gm} {env env2 : Ev} {s s1 s2 : Sto} {ds : List D} {b : Itb} {it : I} {t : Tg} {body ss : Stms} {r : SR}
theorem e_for (hi : evi G M it env s = .ok b s1) (hd : b.items s1 = some ds) (hl : loopS (guard b ds) t (evSs G M body) ds env s1 = .nx env2 s2) (kk : Ve G M ss env2 s2 r) : Ve G M (.cons (.for_ t it body) ss) env s r := by
  refine (q_seq (env1 := env2) (s2 := s2) ?_).trans kk
  show R.st (evi G M it env s) env _ = _
  rw [hi]
  show (match b.items s1 with | some ds => loopS (guard b ds) t (evSs G M body) ds env s1 | none => .bad) = _
  rw [hd]
  exact hl
/-- a loop that keeps an invariant and never leaves early -/
theorem loop_inv {gd : Sto → Bool} (I : List D → Ev → Sto → Prop) (hg : ∀ {rest env s}, I rest env s → gd s = true)
    (step : ∀ {d rest env s}, I (d :: rest) env s → ∃ env1, t.put env d = some env1 ∧ ∃ env2 s2, Ve G M body env1 s (.nx env2 s2) ∧ I rest env2 s2) :
    ∀ (ds : List D) (env : Ev) (s : Sto), I ds env s → ∃ env2 s2, loopS gd t (evSs G M body) ds env s = .nx env2 s2 ∧ I [] env2 s2
  | [], env, s, h => ⟨env, s, by unfold loopS; rw [if_pos (hg h)], h⟩
  | d :: ds, env, s, h => by
    obtain ⟨env1, p1, env2, s2, e1, h2⟩ := step h
    obtain ⟨env3, s3, e2, h3⟩ := loop_inv I hg step ds env2 s2 h2
    refine ⟨env3, s3, ?_, h3⟩
    unfold loopS
    rw [if_pos (hg h), p1]
    show (match evSs G M body env1 s with
        | .nx env2 s2 => loopS gd t (evSs G M body) ds env2 s2
        | .ct env2 s2 => loopS gd t (evSs G M body) ds env2 s2
        | .bk env2 s2 => .nx env2 s2
        | r => r) = _
    rw [show evSs G M body env1 s = _ from e1]
    exact e2
end
end Ir
end
section
set_option Elab.async false
set_option linter.all false
set_option maxRecDepth 100000
namespace Ir
open PySem
/-! ### what holds behind an evaluation, as a proposition: from the end backwards -/
/-- what simp does not enter -/
class Hd (α : Type) where
  v : α
instance {α : Type} : Coe α (Hd α) := ⟨Hd.mk⟩
abbrev Xq := Nat → List D → Sto → Prop
def R.sat {α : Type} (r : R α) (Q : α → Sto → Prop) (X : Xq) : Prop := match r with
  | .ok a s => Q a s
  | .ex k ds s => X k ds s
  | .bad => False
structure Pq where
  nx : Ev → Sto → Prop
  rt : D → Sto → Prop
  bk : Ev → Sto → Prop
  ct : Ev → Sto → Prop
  ex : Xq
def Pq.nxt (Q : Pq) (A : Ev → Sto → Prop) : Pq := ⟨A, Q.rt, Q.bk, Q.ct, Q.ex⟩
def Pq.lop (Q : Pq) (A : Ev → Sto → Prop) : Pq := ⟨A, Q.rt, Q.nx, A, Q.ex⟩
theorem nxt_nx {Q : Pq} {A : Ev → Sto → Prop} : (Q.nxt A).nx = A := rfl
theorem nxt_rt {Q : Pq} {A : Ev → Sto → Prop} : (Q.nxt A).rt = Q.rt := rfl
theorem nxt_bk {Q : Pq} {A : Ev → Sto → Prop} : (Q.nxt A).bk = Q.bk := rfl
theorem nxt_ct {Q : Pq} {A : Ev → Sto → Prop} : (Q.nxt A).ct = Q.ct := rfl
theorem nxt_ex {Q : Pq} {A : Ev → Sto → Prop} : (Q.nxt A).ex = Q.ex := rfl
theorem lop_nx {Q : Pq} {A : Ev → Sto → Prop} : (Q.lop A).nx = A := rfl
theorem lop_rt {Q : Pq} {A : Ev → Sto → Prop} : (Q.lop A).rt = Q.rt := rfl
theorem lop_bk {Q : Pq} {A : Ev → Sto → Prop} : (Q.lop A).bk = Q.nx := rfl
theorem lop_ct {Q : Pq} {A : Ev → Sto → Prop} : (Q.lop A).ct = A := rfl
theorem lop_ex {Q : Pq} {A : Ev → Sto → Prop} : (Q.lop A).ex = Q.ex := rfl
def SR.sat (r : SR) (Q : Pq) : Prop := match r with
  | .nx env s => Q.nx env s
  | .rt d s => Q.rt d s
  | .bk env s => Q.bk env s
  | .ct env s => Q.ct env s
  | .ex k ds _ s => Q.ex k ds s
  | .bad => False
def wx (G : Gt) (M : Gm) (x : E) (env : Ev) (s : Sto) (Q : D → Sto → Prop) (X : Xq) : Prop := ((evp G M x).1 env s).sat Q X
def wt (G : Gt) (M : Gm) (x : E) (env : Ev) (s : Sto) (Q : Bool → Sto → Prop) (X : Xq) : Prop := ((evp G M x).2 env s).sat Q X
def wl (G : Gt) (M : Gm) (xs : Es) (env : Ev) (s : Sto) (Q : List D → Sto → Prop) (X : Xq) : Prop := (seqFs (evs G M xs) env s).sat Q X
def wi (G : Gt) (M : Gm) (x : I) (env : Ev) (s : Sto) (Q : Itb → Sto → Prop) (X : Xq) : Prop := (evi G M x env s).sat Q X
def ws (G : Gt) (M : Gm) (ss : Stms) (env : Ev) (s : Sto) [Q : Hd Pq] : Prop := (evSs G M ss env s).sat Q.v
def wpo (r : Po) [Q : Hd (D → Sto → Prop)] : Prop := match r with
  | some (d, s) => Q.v d s
  | none => False
/-- a branch, not entered before its test is known -/
def br (b : Bool) [A : Hd Prop] [B : Hd Prop] : Prop := if b = true then A.v else B.v
def atE (env : Ev) (i : Nat) (k : D → Prop) : Prop := match env[i]? with
  | some (some d) => k d
  | _ => False
theorem br_true {A B : Prop} : @br true A B = A := by simp [br]
theorem br_false {A B : Prop} : @br false A B = B := by simp [br]
theorem br_not {b : Bool} {A B : Prop} : @br (!b) A B = @br b B A := by cases b <;> simp [br]
theorem br_dec {p : Prop} [Decidable p] {A B : Prop} (h1 : p → A) (h2 : ¬ p → B) : @br (decide p) A B := by
  unfold br
  by_cases h : p
  · rw [if_pos (decide_eq_true h)]; exact h1 h
  · rw [if_neg (by simpa using h)]; exact h2 h
theorem br_bool {b : Bool} {A B : Prop} (h1 : b = true → A) (h2 : b = false → B) : @br b A B := by
  cases b
  · exact h2 rfl
  · exact h1 rfl
theorem atE_zero {d : D} {env : Ev} {k : D → Prop} : atE (some d :: env) 0 k = k d := rfl
theorem atE_succ {o : Option D} {env : Ev} {i : Nat} {k : D → Prop} : atE (o :: env) (i + 1) k = atE env i k := rfl
theorem sat_ok {α : Type} {a : α} {s : Sto} {Q : α → Sto → Prop} {X : Xq} : (R.ok a s).sat Q X = Q a s := rfl
theorem sat_ex {α : Type} {k : Nat} {ds : List D} {s : Sto} {Q : α → Sto → Prop} {X : Xq} : (R.ex k ds s : R α).sat Q X = X k ds s := rfl
theorem sat_if {α : Type} {p : Prop} [Decidable p] {r : R α} {Q : α → Sto → Prop} {X : Xq} : (if p then r else .bad).sat Q X = (p ∧ r.sat Q X) := by
  by_cases h : p
  · rw [if_pos h]; simp only [h, true_and]
  · rw [if_neg h]; simp only [h, false_and]; rfl
theorem sat_bind {α β : Type} {r : R α} {f : α → Sto → R β} {Q : β → Sto → Prop} {X : Xq} : (r.bind f).sat Q X = r.sat (fun a s => (f a s).sat Q X) X := by cases r <;> rfl
theorem R.sat.imp {α : Type} {r : R α} {Q Q' : α → Sto → Prop} {X X' : Xq} (h : r.sat Q X) (k : ∀ a s, Q a s → Q' a s) (x : ∀ k ds s, X k ds s → X' k ds s) : r.sat Q' X' := by
  cases r with
  | ok a s => exact k a s h
  | ex n ds s => exact x n ds s h
  | bad => exact h
abbrev noX : Xq := fun _ _ _ => False
theorem R.sat.to {α : Type} {r : R α} {Q Q' : α → Sto → Prop} {X : Xq} (h : r.sat Q noX) (k : ∀ a s, Q a s → Q' a s) : r.sat Q' X := h.imp k fun _ _ _ h => h.elim
theorem sat_st {α : Type} {r : R α} {env : Ev} {f : α → Sto → SR} {Q : Pq} : (r.st env f).sat Q = r.sat (fun a s => (f a s).sat Q) Q.ex := by cases r <;> rfl
theorem sat_ofPo {r : Po} {Q : D → Sto → Prop} {X : Xq} : (ofPo r).sat Q X = @wpo r Q := by cases r <;> rfl
theorem wpo_some {d : D} {s : Sto} {Q : D → Sto → Prop} : @wpo (some (d, s)) Q = Q d s := rfl
theorem wpo_ret {d : D} {s : Sto} {Q : D → Sto → Prop} : @wpo (ret s d) Q = Q d s := rfl
theorem wpo_bind {α : Type} {a : α} {f : α → Po} {Q : D → Sto → Prop} : @wpo ((some a).bind f) Q = @wpo (f a) Q := rfl
theorem wpo_if {p : Prop} [Decidable p] {r : Po} {Q : D → Sto → Prop} : @wpo (if p then r else none) Q = (p ∧ @wpo r Q) := by
  by_cases h : p <;> simp [h, wpo]
/-- a call, not entered before it is told -/
def cl (G : Gt) (r : Nat → List D → Sto → R D) (i : Nat) (ds : List D) (s : Sto) [Q : Hd (D → Sto → Prop)] (X : Xq) : Prop := (posM G r i ds s).sat Q.v X
def mkd (G : Gt) (n : Bool) (kc : Nat) (r : Nat → List D → Sto → R D) (i : Nat) (ds : List D) (s : Sto) [Q : Hd (D → Sto → Prop)] (X : Xq) : Prop := (made n kc (posM G r i) ds s).sat Q.v X
section
variable {G : Gt} {M : Gm} {env : Ev} {s : Sto} {Q : D → Sto → Prop} {X : Xq} {x y z : E} {xs : Es} {i kc : Nat} {m : Str} {QL : List D → Sto → Prop} {QB : Bool → Sto → Prop}
theorem wl_nil : wl G M .nil env s QL X = QL [] s := rfl
theorem wl_cons : wl G M (.cons x xs) env s QL X = wx G M x env s (fun d s => wl G M xs env s (fun ds s => QL (d :: ds) s) X) X := by
  show ((sCons (evp G M x).1 (seqFs (evs G M xs))) env s).sat QL X = _
  unfold sCons
  rw [sat_bind]
  simp only [sat_bind]
  rfl
theorem wx_var : wx G M (.var i) env s Q X = atE env i fun d => Q d s := by
  show (mVar i env s).sat Q X = _
  unfold mVar atE
  cases env[i]? with
  | none => rfl
  | some o => cases o <;> rfl
theorem wx_con {d : D} : wx G M (.con d) env s Q X = Q d s := rfl
theorem wx_glb {d : D} : wx G M (.glb d) env s Q X = Q d s := rfl
theorem wx_bty {n : String} : wx G M (.bty n) env s Q X = Q (.ty n) s := rfl
theorem w_m2 {o : O2} {fa fb : Fe} : (m2 o fa fb env s).sat Q X = (fa env s).sat (fun d s => (fb env s).sat (fun e s => @wpo (ap2 o s d e) Q) X) X := by
  unfold m2
  simp only [sat_bind, sat_ofPo]
theorem wx_bin {o : O2} : wx G M (.x (.bin o) (.cons x (.cons y .nil))) env s Q X = wx G M x env s (fun d s => wx G M y env s (fun e s => @wpo (ap2 o s d e) Q) X) X := w_m2
theorem wx_cmp {o : O2} : wx G M (.x (.cmp o) (.cons x (.cons y .nil))) env s Q X = wx G M x env s (fun d s => wx G M y env s (fun e s => @wpo (ap2 o s d e) Q) X) X := w_m2
theorem wx_ix : wx G M (.x .ix (.cons x (.cons y .nil))) env s Q X = wx G M x env s (fun d s => wx G M y env s (fun e s => @wpo (ap2 .ix s d e) Q) X) X := w_m2
theorem w_mn {T : Tab} {o : On} {fs : Fs} : (mn T o fs env s).sat Q X = (fs env s).sat (fun ds s => @wpo (apn T o s ds) Q) X := by
  unfold mn
  simp only [sat_bind, sat_ofPo]
theorem wx_bt {o : On} : wx G M (.x (.bt o) xs) env s Q X = wl G M xs env s (fun ds s => @wpo (apn G.T o s ds) Q) X := w_mn
theorem wx_tup : wx G M (.x .tup xs) env s Q X = wl G M xs env s (fun ds s => @wpo (apn G.T .tup s ds) Q) X := w_mn
theorem wx_lst {n : Bool} : wx G M (.x (.lst n) xs) env s Q X = wl G M xs env s (fun ds s => @wpo (apn G.T (.lst n) s ds) Q) X := w_mn
theorem wx_neg : wx G M (.x .neg (.cons x .nil)) env s Q X = wl G M (.cons x .nil) env s (fun ds s => @wpo (apn G.T .neg s ds) Q) X := w_mn
theorem wx_meth {ty : String} {o : On} : wx G M (.x (.meth ty o) (.cons x xs)) env s Q X = wx G M x env s (fun d s => isTy ty s d = true ∧ wl G M xs env s (fun ds s => @wpo (apn G.T o s (d :: ds)) Q) X) X := by
  show (mMeth G.T ty o (evp G M x).1 (seqFs (evs G M xs)) env s).sat Q X = _
  unfold mMeth
  rw [sat_bind]
  congr 1
  funext d s
  rw [sat_if]
  try simp only [sat_bind, sat_ofPo]
  try rfl
theorem wx_fld {f : Str} : wx G M (.x (.fld f) (.cons x .nil)) env s Q X = wx G M x env s (fun d s => @wpo ((fldOf s d G.F f).bind fun e => ret s e) Q) X := by
  show (mFld G.F f (evp G M x).1 env s).sat Q X = _
  unfold mFld
  rw [sat_bind]
  congr 1
  funext d s
  split
  · rename_i h; rw [h]; rfl
  · rename_i h; rw [h]; rfl
theorem wx_call : wx G M (.x (.call i) xs) env s Q X = wl G M xs env s (fun ds s => @cl G M.raw i ds s Q X) X := by
  show (mCal _ (seqFs (evs G M xs)) env s).sat Q X = _
  unfold mCal
  rw [sat_bind]
  rfl
theorem wx_own : wx G M (.x (.own kc m i) (.cons x xs)) env s Q X = wx G M x env s (fun d s => isIns s d kc m = true ∧ wl G M xs env s (fun ds s => @cl G M.raw i (d :: ds) s Q X) X) X := by
  show (mOwn kc m _ (evp G M x).1 (seqFs (evs G M xs)) env s).sat Q X = _
  unfold mOwn
  rw [sat_bind]
  congr 1
  funext d s
  rw [sat_if]
  try simp only [sat_bind, sat_ofPo]
  try rfl
theorem wx_cmt {n : Str} : wx G M (.x (.cmt kc n i) (.cons x xs)) env s Q X = wx G M x env s (fun d s => isCls d kc = true ∧ wl G M xs env s (fun ds s => @cl G M.raw i (.cls kc :: ds) s Q X) X) X := by
  show (mCmt kc _ (evp G M x).1 (seqFs (evs G M xs)) env s).sat Q X = _
  unfold mCmt
  rw [sat_bind]
  congr 1
  funext d s
  rw [sat_if]
  try simp only [sat_bind, sat_ofPo]
  try rfl
theorem wx_make {n : Bool} : wx G M (.x (.make n kc i) xs) env s Q X = wl G M xs env s (fun ds s => @mkd G n kc M.low i ds s Q X) X := by
  show (mMake n kc _ (seqFs (evs G M xs)) env s).sat Q X = _
  unfold mMake
  rw [sat_bind]
  rfl
theorem wx_mkv {n : Bool} : wx G M (.x (.mkv n kc i) (.cons x xs)) env s Q X = wx G M x env s (fun d s => isCls d kc = true ∧ wl G M xs env s (fun ds s => @mkd G n kc M.low i ds s Q X) X) X := by
  show (mMkv n kc _ (evp G M x).1 (seqFs (evs G M xs)) env s).sat Q X = _
  unfold mMkv
  rw [sat_bind]
  congr 1
  funext d s
  rw [sat_if]
  try simp only [sat_bind, sat_ofPo]
  try rfl
theorem wx_cval {f : Str} {v : D} : wx G M (.x (.cval kc f v) (.cons x .nil)) env s Q X = wx G M x env s (fun d s => isCls d kc = true ∧ Q v s) X := by
  show (mCval kc v (evp G M x).1 env s).sat Q X = _
  unfold mCval
  rw [sat_bind]
  congr 1
  funext d s
  rw [sat_if]
  try simp only [sat_bind, sat_ofPo]
  try rfl
theorem wx_opk : wx G M (.x (.opk kc i) (.cons x (.cons y .nil))) env s Q X = wx G M x env s (fun d s => wx G M y env s (fun e s => (isIns s d kc "" && isIns s e kc "") = true ∧ @cl G M.raw i [d, e] s Q X) X) X := by
  show (mOpK kc _ (evp G M x).1 (evp G M y).1 env s).sat Q X = _
  unfold mOpK
  rw [sat_bind]
  congr 1
  funext d s
  rw [sat_bind]
  congr 1
  funext e s
  rw [sat_if]
  try simp only [sat_bind, sat_ofPo]
  try rfl
theorem wx_inv : wx G M (.x (.inv kc i) (.cons x .nil)) env s Q X = wx G M x env s (fun d s => isIns s d kc "" = true ∧ @cl G M.raw i [d] s Q X) X := by
  show (mUnK kc _ (evp G M x).1 env s).sat Q X = _
  unfold mUnK
  rw [sat_bind]
  congr 1
  funext d s
  rw [sat_if]
  try simp only [sat_bind, sat_ofPo]
  try rfl
def boolK (neg : Bool) (Q : D → Sto → Prop) (r : D) (s : Sto) : Prop := match r with
  | .bl b => Q (.bl (if neg = true then !b else b)) s
  | _ => False
theorem boolK_bl {neg b : Bool} : boolK neg Q (.bl b) s = Q (.bl (if neg = true then !b else b)) s := rfl
theorem boolK_t {b : Bool} : boolK true Q (.bl b) s = Q (.bl (!b)) s := rfl
theorem boolK_f {b : Bool} : boolK false Q (.bl b) s = Q (.bl b) s := rfl
theorem wx_ink {neg : Bool} : wx G M (.x (.ink neg kc i) (.cons x (.cons y .nil))) env s Q X = wx G M x env s (fun d s => wx G M y env s (fun e s => isIns s e kc "" = true ∧ @cl G M.raw i [e, d] s (boolK neg Q) X) X) X := by
  show (mTwo (inKR neg kc _) (evp G M x).1 (evp G M y).1 env s).sat Q X = _
  unfold mTwo
  rw [sat_bind]
  congr 1
  funext d s
  rw [sat_bind]
  congr 1
  funext e s
  unfold inKR
  rw [sat_if, sat_bind]
  congr 1
  unfold cl
  congr 1
  funext r s
  cases r <;> rfl
theorem wx_eqk {neg : Bool} : wx G M (.x (.eqk neg kc i) (.cons x (.cons y .nil))) env s Q X = wx G M x env s (fun d s => wx G M y env s (fun e s => (isIns s d kc "" && eqR s e kc) = true ∧ @cl G M.low i [d, e] s (boolK neg Q) X) X) X := by
  show (mTwo (eqKR neg kc _) (evp G M x).1 (evp G M y).1 env s).sat Q X = _
  unfold mTwo
  rw [sat_bind]
  congr 1
  funext d s
  rw [sat_bind]
  congr 1
  funext e s
  unfold eqKR
  rw [sat_if, sat_bind]
  congr 1
  unfold cl
  congr 1
  funext r s
  cases r <;> rfl
theorem wx_dct {ps : List (Int × Int)} : wx G M (.x (.dct ps) .nil) env s Q X = Q (.dic (ps.map fun q => .int q.1) (ps.map fun q => .int q.2)) s := rfl
theorem wx_eqa {neg : Bool} : wx G M (.x (.eqa neg kc i) (.cons x (.cons y .nil))) env s Q X = wx G M x env s (fun d s => wx G M y env s (fun e s => if (isIns s d kc "" && eqR s e kc) = true then @cl G M.low i [d, e] s (boolK neg Q) X else (plainL s d && isIns s e kc "") = true ∧ @cl G M.low i [e, d] s (boolK neg Q) X) X) X := by
  show (mTwo (eqAR neg kc _) (evp G M x).1 (evp G M y).1 env s).sat Q X = _
  unfold mTwo
  rw [sat_bind]
  congr 1
  funext d s
  rw [sat_bind]
  congr 1
  funext e s
  unfold eqAR
  split
  · rw [sat_bind]
    unfold cl
    congr 1
    funext r s
    cases r <;> rfl
  · rw [sat_if, sat_bind]
    congr 1
    unfold cl
    congr 1
    funext r s
    cases r <;> rfl
theorem wx_bok : wx G M (.x (.bok kc i) (.cons x .nil)) env s Q X = wx G M x env s (fun d s => isIns s d kc "" = true ∧ @cl G M.low i [d] s (boolK false Q) X) X := by
  show (mBok kc _ (evp G M x).1 env s).sat Q X = _
  unfold mBok
  rw [sat_bind]
  congr 1
  funext d s
  rw [sat_if, sat_bind]
  congr 1
  unfold cl
  congr 1
  funext r s
  cases r <;> rfl
theorem wx_srt {n : Bool} {kk : Kk} : wx G M (.x (.srt n kk) (.cons x .nil)) env s Q X = wx G M x env s (fun d s => @wpo (apSort n kk s d) Q) X := by
  show (mSort n kk (evp G M x).1 env s).sat Q X = _
  unfold mSort
  rw [sat_bind]
  simp only [sat_ofPo]
  rfl
def intK [k : Hd (Int → Prop)] (d : D) : Prop := match d with
  | .int i => k.v i
  | _ => False
theorem intK_int {k : Int → Prop} {j : Int} : @intK k (.int j) = k j := rfl
theorem w_opt {f : Fe} {k : Option Int → Sto → Prop} : (optI (some f) env s).sat k X = (f env s).sat (fun d s => @intK (fun i => k (some i) s) d) X := by
  unfold optI
  rw [sat_bind]
  congr 1
  funext d s
  cases d <;> rfl
theorem wx_slc_tt {n : Bool} : wx G M (.x (.slc n true true) (.cons x (.cons y (.cons z .nil)))) env s Q X = wx G M x env s (fun d s => wx G M y env s (fun lo s => @intK (fun lo => wx G M z env s (fun hi s => @intK (fun hi => @wpo (apSl n s d (some lo) (some hi)) Q) hi) X) lo) X) X := by
  show (mSl n (evp G M x).1 (some (evp G M y).1) (some (evp G M z).1) env s).sat Q X = _
  unfold mSl
  rw [sat_bind]
  congr 1
  funext d s
  rw [sat_bind, w_opt]
  congr 1
  funext lo s
  cases lo <;> try rfl
  simp only [intK]
  rw [sat_bind, w_opt]
  congr 1
  funext hi s
  cases hi <;> try rfl
  simp only [intK, sat_ofPo]
theorem wx_slc_ft {n : Bool} : wx G M (.x (.slc n false true) (.cons x (.cons z .nil))) env s Q X = wx G M x env s (fun d s => wx G M z env s (fun hi s => @intK (fun hi => @wpo (apSl n s d none (some hi)) Q) hi) X) X := by
  show (mSl n (evp G M x).1 none (some (evp G M z).1) env s).sat Q X = _
  unfold mSl
  rw [sat_bind]
  congr 1
  funext d s
  show (((optI (some (evp G M z).1) env s)).bind _).sat Q X = _
  rw [sat_bind, w_opt]
  congr 1
  funext hi s
  cases hi <;> try rfl
  simp only [intK, sat_ofPo]
theorem wx_slc_tf {n : Bool} : wx G M (.x (.slc n true false) (.cons x (.cons y .nil))) env s Q X = wx G M x env s (fun d s => wx G M y env s (fun lo s => @intK (fun lo => @wpo (apSl n s d (some lo) none) Q) lo) X) X := by
  show (mSl n (evp G M x).1 (some (evp G M y).1) none env s).sat Q X = _
  unfold mSl
  rw [sat_bind]
  congr 1
  funext d s
  rw [sat_bind, w_opt]
  congr 1
  funext lo s
  cases lo <;> try rfl
  simp only [intK]
  show (ofPo _).sat Q X = _
  rw [sat_ofPo]
theorem wx_slc_ff {n : Bool} : wx G M (.x (.slc n false false) (.cons x .nil)) env s Q X = wx G M x env s (fun d s => @wpo (apSl n s d none none) Q) X := by
  show (mSl n (evp G M x).1 none none env s).sat Q X = _
  unfold mSl
  rw [sat_bind]
  congr 1
  funext d s
  show (ofPo _).sat Q X = _
  rw [sat_ofPo]
/-- truth, taken where it is known -/
def truK (o : Option Bool) [k : Hd (Bool → Prop)] : Prop := match o with
  | some b => k.v b
  | none => False
theorem truK_some {b : Bool} {k : Bool → Prop} : @truK (some b) k = k b := rfl
theorem w_ofTt {o : Option Bool} : (ofTt o s).sat QB X = @truK o fun b => QB b s := by cases o <;> rfl
theorem wx_and : wx G M (.and_ x y) env s Q X = wx G M x env s (fun d s => @truK (tru s d) fun b => @br b (wx G M y env s Q X) (Q d s)) X := by
  show (mAnd (evp G M x).1 (evp G M y).1 env s).sat Q X = _
  unfold mAnd
  rw [sat_bind]
  congr 1
  funext d s
  cases tru s d with
  | none => rfl
  | some b => cases b <;> simp [ofT, truK, br] <;> rfl
theorem wx_or : wx G M (.or_ x y) env s Q X = wx G M x env s (fun d s => @truK (tru s d) fun b => @br b (Q d s) (wx G M y env s Q X)) X := by
  show (mOr (evp G M x).1 (evp G M y).1 env s).sat Q X = _
  unfold mOr
  rw [sat_bind]
  congr 1
  funext d s
  cases tru s d with
  | none => rfl
  | some b => cases b <;> simp [ofT, truK, br] <;> rfl
theorem wx_not : wx G M (.not_ x) env s Q X = wx G M x env s (fun d s => @truK (tru s d) fun b => Q (.bl (!b)) s) X := by
  show (mNot (evp G M x).1 env s).sat Q X = _
  unfold mNot
  rw [sat_bind]
  congr 1
  funext d s
  cases tru s d <;> rfl
theorem wx_ite : wx G M (.ite x y z) env s Q X = wt G M x env s (fun b s => @br b (wx G M y env s Q X) (wx G M z env s Q X)) X := by
  show (mIf (evp G M x).2 (evp G M y).1 (evp G M z).1 env s).sat Q X = _
  unfold mIf
  rw [sat_bind]
  congr 1
  funext b s
  cases b <;> simp [br] <;> rfl
def blK [k : Hd (Bool → Prop)] (d : D) : Prop := match d with
  | .bl b => k.v b
  | _ => False
theorem blK_bl {k : Bool → Prop} {b : Bool} : @blK k (.bl b) = k b := rfl
theorem wx_chain {o1 o2 : O2} : wx G M (.chain o1 o2 x y z) env s Q X = wx G M x env s (fun d s => wx G M y env s (fun e s => @wpo (ap2 o1 s d e) fun r s => @blK (fun b => @br b (wx G M z env s (fun u s => @wpo (ap2 o2 s e u) Q) X) (Q (.bl false) s)) r) X) X := by
  show (mChain o1 o2 (evp G M x).1 (evp G M y).1 (evp G M z).1 env s).sat Q X = _
  unfold mChain
  rw [sat_bind]
  congr 1
  funext d s
  rw [sat_bind]
  congr 1
  funext e s
  rw [sat_bind, sat_ofPo]
  congr 1
  refine congrArg Hd.mk ?_
  funext r s
  cases r <;> try rfl
  rename_i b
  cases b
  · simp only [blK, br_false]; rfl
  · simp only [blK, br_true, sat_bind, sat_ofPo]; rfl
theorem w_f1 {g : Sto → D → Po} {fa : Fe} : ((fa env s).bind fun d s => ofPo (g s d)).sat Q X = (fa env s).sat (fun d s => @wpo (g s d) Q) X := by
  simp only [sat_bind, sat_ofPo]
/-- the texts of a list or tuple, where they are known -/
def txK (o : Option (List Str)) [k : Hd (List Str → Prop)] : Prop := match o with
  | some xs => k.v xs
  | none => False
theorem txK_some {xs : List Str} {k : List Str → Prop} : @txK (some xs) k = k xs := rfl
theorem wx_sset {n : Bool} : wx G M (.x (.sset n) (.cons x .nil)) env s Q X = wx G M x env s (fun d s => @txK (txtsOf s d) fun ts => @wpo (newL n s ((sT ts).map D.str)) Q) X := by
  show (mSset n (evp G M x).1 env s).sat Q X = _
  unfold mSset
  rw [sat_bind]
  congr 1
  funext d s
  cases txtsOf s d with
  | none => rfl
  | some ts => exact sat_ofPo
theorem wx_lset : wx G M (.x .lset (.cons x .nil)) env s Q X = wx G M x env s (fun d s => @txK (txtsOf s d) fun ts => Q (.int ((sT ts).length : Int)) s) X := by
  show (mLset (evp G M x).1 env s).sat Q X = _
  unfold mLset
  rw [sat_bind]
  congr 1
  funext d s
  cases txtsOf s d with
  | none => rfl
  | some ts => rfl
theorem wx_rpr : wx G M (.x .rpr (.cons x .nil)) env s Q X = wx G M x env s (fun d s => @wpo (apRepr s d) Q) X := w_f1
theorem wx_dcpy {n : Bool} : wx G M (.x (.dcpy n) (.cons x .nil)) env s Q X = wx G M x env s (fun d s => @wpo (apDcpy n s d) Q) X := w_f1
theorem wx_dlst {n : Bool} : wx G M (.x (.dlst n) (.cons x .nil)) env s Q X = wx G M x env s (fun d s => @wpo (apDlst n s d) Q) X := w_f1
theorem wx_dpr {n : Bool} : wx G M (.x (.dpr n) (.cons x .nil)) env s Q X = wx G M x env s (fun d s => @wpo (apDpr n s d) Q) X := w_f1
theorem wx_rvs {n : Bool} : wx G M (.x (.rvs n) (.cons x .nil)) env s Q X = wx G M x env s (fun d s => @wpo (apRv n s d) Q) X := w_f1
theorem w_f2 {g : Sto → D → D → Po} {fa fb : Fe} : ((fa env s).bind fun d s => (fb env s).bind fun e s => ofPo (g s d e)).sat Q X = (fa env s).sat (fun d s => (fb env s).sat (fun e s => @wpo (g s d e) Q) X) X := by
  simp only [sat_bind, sat_ofPo]
theorem wx_dx : wx G M (.x .dx (.cons x (.cons y .nil))) env s Q X = wx G M x env s (fun d s => wx G M y env s (fun e s => @wpo (apDx s d e) Q) X) X := w_f2
theorem wx_din {neg : Bool} : wx G M (.x (.din neg) (.cons x (.cons y .nil))) env s Q X = wx G M x env s (fun d s => wx G M y env s (fun e s => @wpo (apDin neg s d e) Q) X) X := w_f2
theorem wx_dqe {neg : Bool} : wx G M (.x (.dqe neg) (.cons x (.cons y .nil))) env s Q X = wx G M x env s (fun d s => wx G M y env s (fun e s => @wpo (apDeq neg s d e) Q) X) X := w_f2
theorem wx_rp {n : Bool} : wx G M (.x (.rp n) (.cons x (.cons y .nil))) env s Q X = wx G M x env s (fun d s => wx G M y env s (fun e s => @wpo (apRp n s d e) Q) X) X := w_f2
theorem wx_callo : wx G M (.x (.callo kc i) (.cons x xs)) env s Q X = wx G M x env s (fun d s => isIns s d kc "" = true ∧ wl G M xs env s (fun ds s => isIns s d kc "" = true ∧ @cl G M.raw i (d :: ds) s Q X) X) X := by
  show (mCallO kc _ (evp G M x).1 (seqFs (evs G M xs)) env s).sat Q X = _
  unfold mCallO
  rw [sat_bind]
  congr 1
  funext d s
  rw [sat_if, sat_bind]
  congr 1
  show R.sat _ _ _ = R.sat _ _ _
  congr 1
  funext ds s
  rw [sat_if]
  rfl
/-- a display's dict, put in its place -/
def dspK (n : Bool) (ks : List L2.Key) (s : Sto) (ds : List D) (s2 : Sto) [Q : Hd (D → Sto → Prop)] : Prop := s2[s.length]? = some (.dic [] []) ∧ (ks.length = ds.length ∧ distD (ks.map kd) = true) ∧ ((if n = true then R.ok (.ref s.length) (s2.set s.length (.dic (ks.map kd) ds)) else leave s (s2.set s.length (.dic (ks.map kd) ds)) (.ref s.length)).sat Q.v noX)
theorem wx_dsp {n : Bool} {ks : List L2.Key} (h : wl G M xs env (s ++ [.dic [] []]) (fun ds s2 => @dspK n ks s ds s2 Q) X) : wx G M (.x (.dsp n ks) xs) env s Q X := by
  show (mDsp n ks (seqFs (evs G M xs)) env s).sat Q X
  unfold mDsp
  rw [sat_bind]
  refine R.sat.imp h (fun ds s2 ⟨h1, h2, h3⟩ => ?_) fun _ _ _ h => h
  simp only [h1, if_pos h2]
  exact R.sat.imp h3 (fun _ _ h => h) fun _ _ _ h => h.elim
/-! tests -/
theorem wt_yes : wt G M .yes env s QB X = QB true s := rfl
theorem w_tVal {f : Fe} : (tVal f env s).sat QB X = (f env s).sat (fun d s => @truK (tru s d) fun b => QB b s) X := by
  unfold tVal
  rw [sat_bind]
  simp only [w_ofTt]
theorem wt_var : wt G M (.var i) env s QB X = wx G M (.var i) env s (fun d s => @truK (tru s d) fun b => QB b s) X := w_tVal
theorem wt_con {d : D} : wt G M (.con d) env s QB X = @truK (tru s d) fun b => QB b s := by
  show (tVal (fun _ s => R.ok d s) env s).sat QB X = _
  rw [w_tVal]
  rfl
theorem wt_glb {d : D} : wt G M (.glb d) env s QB X = @truK (tru s d) fun b => QB b s := by
  show (tVal (fun _ s => R.ok d s) env s).sat QB X = _
  rw [w_tVal]
  rfl
theorem w_tCmp {f : Fe} : (tCmpB f env s).sat QB X = (f env s).sat (fun d s => @blK (fun b => QB b s) d) X := by
  unfold tCmpB
  rw [sat_bind]
  congr 1
  funext d s
  cases d <;> rfl
theorem wt_cmp {o : O2} : wt G M (.x (.cmp o) xs) env s QB X = wx G M (.x (.cmp o) xs) env s (fun d s => @blK (fun b => QB b s) d) X := w_tCmp
theorem wt_ink {neg : Bool} : wt G M (.x (.ink neg kc i) xs) env s QB X = wx G M (.x (.ink neg kc i) xs) env s (fun d s => @blK (fun b => QB b s) d) X := w_tCmp
theorem wt_eqk {neg : Bool} : wt G M (.x (.eqk neg kc i) xs) env s QB X = wx G M (.x (.eqk neg kc i) xs) env s (fun d s => @blK (fun b => QB b s) d) X := w_tCmp
theorem wt_eqa {neg : Bool} : wt G M (.x (.eqa neg kc i) xs) env s QB X = wx G M (.x (.eqa neg kc i) xs) env s (fun d s => @blK (fun b => QB b s) d) X := w_tCmp
theorem wt_bok : wt G M (.x (.bok kc i) xs) env s QB X = wx G M (.x (.bok kc i) xs) env s (fun d s => @truK (tru s d) fun b => QB b s) X := w_tVal
theorem wt_chain {o1 o2 : O2} : wt G M (.chain o1 o2 x y z) env s QB X = wx G M (.chain o1 o2 x y z) env s (fun d s => @blK (fun b => QB b s) d) X := w_tCmp
theorem wt_bt {o : On} : wt G M (.x (.bt o) xs) env s QB X = wx G M (.x (.bt o) xs) env s (fun d s => @truK (tru s d) fun b => QB b s) X := w_tVal
theorem wt_call : wt G M (.x (.call i) xs) env s QB X = wx G M (.x (.call i) xs) env s (fun d s => @truK (tru s d) fun b => QB b s) X := w_tVal
theorem wt_own : wt G M (.x (.own kc m i) xs) env s QB X = wx G M (.x (.own kc m i) xs) env s (fun d s => @truK (tru s d) fun b => QB b s) X := w_tVal
theorem wt_cmt : wt G M (.x (.cmt kc m i) xs) env s QB X = wx G M (.x (.cmt kc m i) xs) env s (fun d s => @truK (tru s d) fun b => QB b s) X := w_tVal
theorem wt_fld {f : Str} : wt G M (.x (.fld f) xs) env s QB X = wx G M (.x (.fld f) xs) env s (fun d s => @truK (tru s d) fun b => QB b s) X := w_tVal
theorem wt_ix : wt G M (.x .ix xs) env s QB X = wx G M (.x .ix xs) env s (fun d s => @truK (tru s d) fun b => QB b s) X := w_tVal
theorem wt_din {neg : Bool} : wt G M (.x (.din neg) xs) env s QB X = wx G M (.x (.din neg) xs) env s (fun d s => @blK (fun b => QB b s) d) X := w_tCmp
theorem wt_dqe {neg : Bool} : wt G M (.x (.dqe neg) xs) env s QB X = wx G M (.x (.dqe neg) xs) env s (fun d s => @blK (fun b => QB b s) d) X := w_tCmp
theorem wt_dx : wt G M (.x .dx xs) env s QB X = wx G M (.x .dx xs) env s (fun d s => @truK (tru s d) fun b => QB b s) X := w_tVal
theorem wt_callo : wt G M (.x (.callo kc i) xs) env s QB X = wx G M (.x (.callo kc i) xs) env s (fun d s => @truK (tru s d) fun b => QB b s) X := w_tVal
theorem wt_and : wt G M (.and_ x y) env s QB X = wt G M x env s (fun b s => @br b (wt G M y env s QB X) (QB false s)) X := by
  show (tAnd' (evp G M x).2 (evp G M y).2 env s).sat QB X = _
  unfold tAnd'
  rw [sat_bind]
  congr 1
  funext b s
  cases b <;> simp [br] <;> rfl
theorem wt_or : wt G M (.or_ x y) env s QB X = wt G M x env s (fun b s => @br b (QB true s) (wt G M y env s QB X)) X := by
  show (tOr' (evp G M x).2 (evp G M y).2 env s).sat QB X = _
  unfold tOr'
  rw [sat_bind]
  congr 1
  funext b s
  cases b <;> simp [br] <;> rfl
theorem wt_not : wt G M (.not_ x) env s QB X = wt G M x env s (fun b s => QB (!b) s) X := by
  show (tNot' (evp G M x).2 env s).sat QB X = _
  unfold tNot'
  rw [sat_bind]
  rfl
end
section
variable {G : Gt} {M : Gm} {env : Ev} {s : Sto} {Q : Pq} {x y z t : E} {xs : Es} {i j : Nat} {m : Str} {ss a c : Stms}
theorem then_sat {r : SR} {f : Ev → Sto → SR} : (r.then f).sat Q = r.sat (Q.nxt fun env s => (f env s).sat Q) := by cases r <;> rfl
theorem ws_cons {st : Stm} : @ws G M (.cons st ss) env s Q = (evS G M st env s).sat (Q.nxt fun env s => @ws G M ss env s Q) := by
  show ((evS G M st env s).then _).sat Q = _
  rw [then_sat]
  rfl
theorem ws_nil : @ws G M .nil env s Q = Q.nx env s := rfl
theorem ws_pass : @ws G M (.cons .pass ss) env s Q = @ws G M ss env s Q := by rw [ws_cons]; rfl
theorem ws_brk : @ws G M (.cons .brk ss) env s Q = Q.bk env s := by rw [ws_cons]; rfl
theorem ws_cnt : @ws G M (.cons .cnt ss) env s Q = Q.ct env s := by rw [ws_cons]; rfl
theorem ws_retN : @ws G M (.cons .retN ss) env s Q = Q.rt .non s := by rw [ws_cons]; rfl
theorem ws_ret : @ws G M (.cons (.ret x) ss) env s Q = wx G M x env s (fun d s => Q.rt d s) Q.ex := by
  rw [ws_cons]
  show ((evp G M x).1 env s |>.st env _).sat _ = _
  rw [sat_st]
  rfl
theorem ws_expr : @ws G M (.cons (.expr x) ss) env s Q = wx G M x env s (fun _ s => @ws G M ss env s Q) Q.ex := by
  rw [ws_cons]
  show ((evp G M x).1 env s |>.st env _).sat _ = _
  rw [sat_st]
  rfl
theorem ws_set : @ws G M (.cons (.set i x) ss) env s Q = wx G M x env s (fun d s => @ws G M ss (env.set i (some d)) s Q) Q.ex := by
  rw [ws_cons]
  show ((evp G M x).1 env s |>.st env _).sat _ = _
  rw [sat_st]
  rfl
/-- a value goes to a target -/
def putK (t : Tg) (env : Ev) (d : D) [k : Hd (Ev → Prop)] : Prop := match t.put env d with
  | some env => k.v env
  | none => False
theorem putK_one {d : D} {k : Ev → Prop} : @putK (.one i) env d k = k (env.set i (some d)) := rfl
theorem putK_many {is : List Nat} {ds : List D} {k : Ev → Prop} (h : ds.length = is.length) : @putK (.many is) env (.tup ds) k = k (setAll env is ds) := by
  unfold putK
  simp only [Tg.put, h, if_true]
theorem putK_two {d e : D} {k : Ev → Prop} : @putK (.many [i, j]) env (.tup [d, e]) k = k ((env.set i (some d)).set j (some e)) := rfl
theorem putK_three {n : Nat} {d e f : D} {k : Ev → Prop} : @putK (.many [i, j, n]) env (.tup [d, e, f]) k = k (((env.set i (some d)).set j (some e)).set n (some f)) := rfl
theorem ws_asg {t : Tg} : @ws G M (.cons (.asg t x) ss) env s Q = wx G M x env s (fun d s => @putK t env d fun env => @ws G M ss env s Q) Q.ex := by
  rw [ws_cons]
  show ((evp G M x).1 env s |>.st env _).sat _ = _
  rw [sat_st]
  show R.sat _ _ _ = R.sat _ _ _
  congr 1
  funext d s
  unfold putK
  cases t.put env d <;> rfl
theorem ws_if : @ws G M (.cons (.if_ t a c) ss) env s Q = wt G M t env s (fun b s => @br b (@ws G M a env s (Q.nxt fun env s => @ws G M ss env s Q)) (@ws G M c env s (Q.nxt fun env s => @ws G M ss env s Q))) Q.ex := by
  rw [ws_cons]
  show ((evp G M t).2 env s |>.st env _).sat _ = _
  rw [sat_st]
  show R.sat _ _ _ = R.sat _ _ _
  congr 1
  funext b s
  cases b <;> simp [br] <;> rfl
def stoK (o : Option Sto) [k : Hd (Sto → Prop)] : Prop := match o with
  | some s => k.v s
  | none => False
theorem stoK_some {k : Sto → Prop} : @stoK (some s) k = k s := rfl
theorem ws_sub : @ws G M (.cons (.sub x y z) ss) env s Q = wx G M z env s (fun v s => wx G M x env s (fun d s => wx G M y env s (fun e s => @stoK (stL s d e v) fun s => @ws G M ss env s Q) Q.ex) Q.ex) Q.ex := by
  rw [ws_cons]
  show ((evp G M z).1 env s |>.st env _).sat _ = _
  rw [sat_st]
  show R.sat _ _ _ = R.sat _ _ _
  congr 1
  funext v s
  rw [sat_st]
  show R.sat _ _ _ = R.sat _ _ _
  congr 1
  funext d s
  rw [sat_st]
  show R.sat _ _ _ = R.sat _ _ _
  congr 1
  funext e s
  unfold stoK
  cases stL s d e v <;> rfl
theorem ws_dput : @ws G M (.cons (.dput x y z) ss) env s Q = wx G M z env s (fun v s => wx G M x env s (fun d s => wx G M y env s (fun e s => @stoK (stD s d e v) fun s => @ws G M ss env s Q) Q.ex) Q.ex) Q.ex := by
  rw [ws_cons]
  show ((evp G M z).1 env s |>.st env _).sat _ = _
  rw [sat_st]
  show R.sat _ _ _ = R.sat _ _ _
  congr 1
  funext v s
  rw [sat_st]
  show R.sat _ _ _ = R.sat _ _ _
  congr 1
  funext d s
  rw [sat_st]
  show R.sat _ _ _ = R.sat _ _ _
  congr 1
  funext e s
  unfold stoK
  cases stD s d e v <;> rfl
theorem ws_fld {f : Str} : @ws G M (.cons (.fld f x z) ss) env s Q = wx G M z env s (fun v s => wx G M x env s (fun d s => @stoK (stF s d G.F f v) fun s => @ws G M ss env s Q) Q.ex) Q.ex := by
  rw [ws_cons]
  show ((evp G M z).1 env s |>.st env _).sat _ = _
  rw [sat_st]
  show R.sat _ _ _ = R.sat _ _ _
  congr 1
  funext v s
  rw [sat_st]
  show R.sat _ _ _ = R.sat _ _ _
  congr 1
  funext d s
  unfold stoK
  cases stF s d G.F f v <;> rfl
def twoK [k : Hd (D → D → Prop)] (ds : List D) : Prop := match ds with
  | [d, e] => k.v d e
  | _ => False
theorem twoK_two {d e : D} {k : D → D → Prop} : @twoK k [d, e] = k d e := rfl
def threeK [k : Hd (D → D → D → Prop)] (ds : List D) : Prop := match ds with
  | [d, e, f] => k.v d e f
  | _ => False
theorem threeK_three {d e f : D} {k : D → D → D → Prop} : @threeK k [d, e, f] = k d e f := rfl
theorem ws_par3 {l : Nat} : @ws G M (.cons (.par3 i j l xs) ss) env s Q = wl G M xs env s (fun ds s => @threeK (fun d e f => @ws G M ss (((env.set i (some d)).set j (some e)).set l (some f)) s Q) ds) Q.ex := by
  rw [ws_cons]
  show (seqFs (evs G M xs) env s |>.st env _).sat _ = _
  rw [sat_st]
  show R.sat _ _ _ = R.sat _ _ _
  congr 1
  funext ds s
  unfold threeK
  match ds with
  | [] => rfl
  | [_] => rfl
  | [_, _] => rfl
  | [_, _, _] => rfl
  | _ :: _ :: _ :: _ :: _ => rfl
theorem ws_par : @ws G M (.cons (.par i j xs) ss) env s Q = wl G M xs env s (fun ds s => @twoK (fun d e => @ws G M ss ((env.set i (some d)).set j (some e)) s Q) ds) Q.ex := by
  rw [ws_cons]
  show (seqFs (evs G M xs) env s |>.st env _).sat _ = _
  rw [sat_st]
  show R.sat _ _ _ = R.sat _ _ _
  congr 1
  funext ds s
  unfold twoK
  match ds with
  | [] => rfl
  | [_] => rfl
  | [_, _] => rfl
  | _ :: _ :: _ :: _ => rfl
/-- a loop, not entered before its invariant is known -/
def lp (G : Gt) (M : Gm) (b : Itb) (t : Tg) (body : Stms) (env : Ev) (s : Sto) [Q : Hd Pq] : Prop := match b.items s with
  | some ds => (loopS (guard b ds) t (evSs G M body) ds env s).sat Q.v
  | none => False
theorem ws_for {t : Tg} {it : I} {body : Stms} : @ws G M (.cons (.for_ t it body) ss) env s Q = wi G M it env s (fun b s => @lp G M b t body env s (Q.nxt fun env s => @ws G M ss env s Q)) Q.ex := by
  rw [ws_cons]
  show (evi G M it env s |>.st env _).sat _ = _
  rw [sat_st]
  show R.sat _ _ _ = R.sat _ _ _
  congr 1
  funext b s
  unfold lp
  cases b.items s <;> rfl
def lw (G : Gt) (M : Gm) (x : E) (body : Stms) (env : Ev) (s : Sto) [Q : Hd Pq] : Prop := (whileS (evp G M x).2 (evSs G M body) M.fu env s).sat Q.v
theorem ws_while {body : Stms} : @ws G M (.cons (.while_ x body) ss) env s Q = @lw G M x body env s (Q.nxt fun env s => @ws G M ss env s Q) := by
  rw [ws_cons]
  rfl
end
section
variable {G : Gt} {M : Gm} {env : Ev} {s : Sto} {Q : Itb → Sto → Prop} {X : Xq} {x : E} {xs : Es}
theorem wi_seq : wi G M (.seq x) env s Q X = wx G M x env s (fun d s => isSeq s d = true ∧ Q (.seq d) s) X := by
  show (iSeqC (evp G M x).1 env s).sat Q X = _
  unfold iSeqC
  rw [sat_bind]
  congr 1
  funext d s
  rw [sat_if]
  try simp only [sat_bind, sat_ofPo]
  try rfl
theorem wi_rng1 {x : E} : wi G M (.rng (.cons x .nil)) env s Q X = wx G M x env s (fun d s => @intK (fun j => rOk j = true ∧ Q (.rng 0 1 j.toNat) s) d) X := by
  show (iRng1' (seqFs [(evp G M x).1]) env s).sat Q X = _
  unfold iRng1'
  rw [sat_bind]
  simp only [seqFs, sCons, sNil, sat_bind, sat_ok]
  show R.sat _ _ _ = R.sat _ _ _
  congr 1
  funext d s
  cases d <;> try rfl
  simp only [intK]
  rw [sat_if]
  try simp only [sat_bind, sat_ofPo]
  try rfl
theorem wi_rng2 {x y : E} : wi G M (.rng (.cons x (.cons y .nil))) env s Q X = wx G M x env s (fun d s => wx G M y env s (fun e s => @intK (fun i => @intK (fun j => (rOk i && rOk j) = true ∧ Q (.rng i 1 (j - i).toNat) s) e) d) X) X := by
  show (iRng2' (seqFs [(evp G M x).1, (evp G M y).1]) env s).sat Q X = _
  unfold iRng2'
  rw [sat_bind]
  simp only [seqFs, sCons, sNil, sat_bind, sat_ok]
  show R.sat _ _ _ = R.sat _ _ _
  congr 1
  funext d s
  show R.sat _ _ _ = R.sat _ _ _
  congr 1
  funext e s
  cases d <;> try rfl
  cases e <;> try rfl
  simp only [intK]
  rw [sat_if]
  try simp only [sat_bind, sat_ofPo]
  try rfl
theorem wi_rng3 {x y z : E} : wi G M (.rng (.cons x (.cons y (.cons z .nil)))) env s Q X = wx G M x env s (fun d s => wx G M y env s (fun e s => wx G M z env s (fun f s => @intK (fun i => @intK (fun j => @intK (fun k => (decide (k ≠ 0) && decide (k.natAbs < 1073741824) && Builtin.Range.small i j k && decide (0 ≤ Builtin.Range.rangeSize i j k)) = true ∧ Q (.rng i k (Builtin.Range.rangeSize i j k).toNat) s) f) e) d) X) X) X := by
  show (iRng3' (seqFs [(evp G M x).1, (evp G M y).1, (evp G M z).1]) env s).sat Q X = _
  unfold iRng3'
  rw [sat_bind]
  simp only [seqFs, sCons, sNil, sat_bind, sat_ok]
  show R.sat _ _ _ = R.sat _ _ _
  congr 1
  funext d s
  show R.sat _ _ _ = R.sat _ _ _
  congr 1
  funext e s
  show R.sat _ _ _ = R.sat _ _ _
  congr 1
  funext f s
  cases d <;> try rfl
  cases e <;> try rfl
  cases f <;> try rfl
  simp only [intK]
  rw [sat_if]
  try simp only [sat_bind, sat_ofPo]
  try rfl
theorem wi_enum {x : E} : wi G M (.enum (.cons x .nil)) env s Q X = wx G M x env s (fun d s => (isLst s d || isTup s d) = true ∧ Q (.enum d) s) X := by
  show (iEnum' (seqFs [(evp G M x).1]) env s).sat Q X = _
  unfold iEnum'
  rw [sat_bind]
  simp only [seqFs, sCons, sNil, sat_bind, sat_ok]
  show R.sat _ _ _ = R.sat _ _ _
  congr 1
  funext d s
  rw [sat_if]
  try simp only [sat_bind, sat_ofPo]
  try rfl
theorem wi_zip {x y : E} : wi G M (.zip (.cons x (.cons y .nil))) env s Q X = wx G M x env s (fun d s => wx G M y env s (fun e s => ((isLst s d || isTup s d) && (isLst s e || isTup s e)) = true ∧ Q (.zip d e) s) X) X := by
  show (iZip' (seqFs [(evp G M x).1, (evp G M y).1]) env s).sat Q X = _
  unfold iZip'
  rw [sat_bind]
  simp only [seqFs, sCons, sNil, sat_bind, sat_ok]
  show R.sat _ _ _ = R.sat _ _ _
  congr 1
  funext d s
  show R.sat _ _ _ = R.sat _ _ _
  congr 1
  funext e s
  rw [sat_if]
  try simp only [sat_bind, sat_ofPo]
  try rfl
end
end Ir
end
section
set_option Elab.async false
set_option linter.all false
set_option maxRecDepth 100000
namespace Ir
open PySem
/-! ### operations, from the end backwards -/
section
variable {s : Sto} {Q : D → Sto → Prop} {i j : Int} {T : Tab} {d e : D} {ds es : List D} {m b c : Bool}
theorem o_add : @wpo (ap2 (.add m) s (.int i) (.int j)) Q = Q (.int (i + j)) s := rfl
theorem o_sub : @wpo (ap2 .sub s (.int i) (.int j)) Q = Q (.int (i - j)) s := rfl
theorem o_mul : @wpo (ap2 .mul s (.int i) (.int j)) Q = (mulOk i j = true ∧ Q (.int (i * j)) s) := wpo_if
theorem o_fdiv : @wpo (ap2 .fdiv s (.int i) (.int j)) Q = ((0 < j ∧ j.natAbs.log2 < 9000) ∧ Q (.int (i / j)) s) := wpo_if
theorem o_mod : @wpo (ap2 .mod s (.int i) (.int j)) Q = (0 < j ∧ Q (.int (i % j)) s) := wpo_if
theorem o_pow : @wpo (ap2 .pow s (.int i) (.int j)) Q = ((0 ≤ j ∧ j ≤ 1000000 ∧ i.natAbs < 2 ^ 64) ∧ Q (.int (i ^ j.toNat)) s) := wpo_if
theorem o_lt : @wpo (ap2 .lt s (.int i) (.int j)) Q = Q (.bl (decide (i < j))) s := rfl
theorem o_le : @wpo (ap2 .le s (.int i) (.int j)) Q = Q (.bl (decide (i ≤ j))) s := rfl
theorem o_gt : @wpo (ap2 .gt s (.int i) (.int j)) Q = Q (.bl (decide (j < i))) s := rfl
theorem o_ge : @wpo (ap2 .ge s (.int i) (.int j)) Q = Q (.bl (decide (j ≤ i))) s := rfl
theorem beq_dec (i j : Int) : (i == j) = decide (i = j) := by
  by_cases h : i = j
  · subst h; simp
  · rw [decide_eq_false h]; exact beq_false_of_ne h
theorem o_eq : @wpo (ap2 .eq s (.int i) (.int j)) Q = Q (.bl (decide (i = j))) s := by
  show Q (.bl (i == j)) s = _
  rw [beq_dec]
theorem o_ne : @wpo (ap2 .ne s (.int i) (.int j)) Q = Q (.bl (!decide (i = j))) s := by
  show Q (.bl (!(i == j))) s = _
  rw [beq_dec]
theorem o_isn : @wpo (ap2 .isn s d .non) Q = Q (.bl (isNon d)) s := rfl
theorem o_notn : @wpo (ap2 .notn s d .non) Q = Q (.bl (!isNon d)) s := rfl
theorem isNon_int : isNon (.int i) = false := rfl
theorem isNon_non : isNon .non = true := rfl
theorem isNon_tup : isNon (.tup ds) = false := rfl
theorem o_isb : @wpo (ap2 .isb s (.bl b) (.bl c)) Q = Q (.bl (decide (b = c))) s := rfl
theorem o_notb : @wpo (ap2 .notb s (.bl b) (.bl c)) Q = Q (.bl (!decide (b = c))) s := rfl
theorem o_tup : @wpo (apn T .tup s ds) Q = (ds.length ≤ sizeLine ∧ Q (.tup ds) s) := wpo_if
theorem o_lst : @wpo (apn T (.lst false) s ds) Q = (ds.length ≤ sizeLine ∧ Q (.lst ds) s) := wpo_if
theorem o_lstm : @wpo (apn T (.lst true) s ds) Q = (ds.length ≤ sizeLine ∧ Q (.ref s.length) (s ++ [.lst ds])) := wpo_if
theorem o_tup0 : @wpo (apn T .tup s []) Q = Q (.tup []) s := rfl
theorem o_lst0 : @wpo (apn T (.lst false) s []) Q = Q (.lst []) s := rfl
theorem o_lstm0 : @wpo (apn T (.lst true) s []) Q = Q (.ref s.length) (s ++ [.lst []]) := rfl
theorem sz_nil : (([] : List D).length ≤ sizeLine) = True := by simp
theorem sz_1 : ([d].length ≤ sizeLine) = True := by simp [sizeLine]
theorem sz_2 {d2 : D} : ([d, d2].length ≤ sizeLine) = True := by simp [sizeLine]
theorem sz_3 {d2 d3 : D} : ([d, d2, d3].length ≤ sizeLine) = True := by simp [sizeLine]
theorem sz_4 {d2 d3 d4 : D} : ([d, d2, d3, d4].length ≤ sizeLine) = True := by simp [sizeLine]
theorem sz_5 {d2 d3 d4 d5 : D} : ([d, d2, d3, d4, d5].length ≤ sizeLine) = True := by simp [sizeLine]
theorem sz_6 {d2 d3 d4 d5 d6 : D} : ([d, d2, d3, d4, d5, d6].length ≤ sizeLine) = True := by simp [sizeLine]
theorem o_neg : @wpo (apn T .neg s [.int i]) Q = Q (.int (-i)) s := rfl
theorem o_abs : @wpo (apn T .abs s [.int i]) Q = Q (.int (if i < 0 then -i else i)) s := rfl
theorem o_toInt : @wpo (apn T .int s [.int i]) Q = Q (.int i) s := rfl
theorem o_toIntb : @wpo (apn T .int s [.bl b]) Q = Q (.int (if b = true then 1 else 0)) s := rfl
theorem o_boolb : @wpo (apn T .bool s [.bl b]) Q = Q (.bl b) s := rfl
theorem o_boolT : @wpo (apn T .bool s [.tup ds]) Q = Q (.bl (!ds.isEmpty)) s := rfl
theorem o_boolL : @wpo (apn T .bool s [.lst ds]) Q = Q (.bl (!ds.isEmpty)) s := rfl
theorem o_max2 : @wpo (apn T .max2 s [.int i, .int j]) Q = Q (.int (if j > i then j else i)) s := rfl
theorem o_min2 : @wpo (apn T .min2 s [.int i, .int j]) Q = Q (.int (if j < i then j else i)) s := rfl
theorem o_lenL : @wpo (apn T .len s [.lst ds]) Q = Q (.int (ds.length : Int)) s := rfl
theorem o_lenT : @wpo (apn T .len s [.tup ds]) Q = Q (.int (ds.length : Int)) s := rfl
theorem o_lenK : @wpo (apn T .len s [.klst ds]) Q = Q (.int (ds.length : Int)) s := rfl
theorem o_tupleL : @wpo (apn T .tuple s [.lst ds]) Q = Q (.tup ds) s := rfl
theorem o_tupleT : @wpo (apn T .tuple s [.tup ds]) Q = Q (.tup ds) s := rfl
theorem o_listL : @wpo (apn T (.list false) s [.lst ds]) Q = Q (.lst ds) s := rfl
theorem o_listT : @wpo (apn T (.list false) s [.tup ds]) Q = Q (.lst ds) s := rfl
theorem o_listmL : @wpo (apn T (.list true) s [.lst ds]) Q = Q (.ref s.length) (s ++ [.lst ds]) := rfl
theorem o_listmT : @wpo (apn T (.list true) s [.tup ds]) Q = Q (.ref s.length) (s ++ [.lst ds]) := rfl
theorem o_addT : @wpo (ap2 (.add m) s (.tup ds) (.tup es)) Q = (ds.length + es.length ≤ sizeLine ∧ Q (.tup (ds ++ es)) s) := wpo_if
theorem o_addL : @wpo (ap2 (.add false) s (.lst ds) (.lst es)) Q = (ds.length + es.length ≤ sizeLine ∧ Q (.lst (ds ++ es)) s) := wpo_if
theorem o_ixL : @wpo (ap2 .ix s (.lst ds) (.int i)) Q = @wpo ((L2.atI ds i).bind fun x => ret s x) Q := rfl
theorem o_ixT : @wpo (ap2 .ix s (.tup ds) (.int i)) Q = @wpo ((L2.atI ds i).bind fun x => ret s x) Q := rfl
theorem ix_0 : L2.atI (d :: ds) 0 = some d := by
  simp [L2.atI, L2.ixN]
theorem ix_1 : L2.atI (d :: e :: ds) 1 = some e := by
  simp [L2.atI, L2.ixN]
  rw [if_pos (by omega)]; rfl
theorem ix_2 {f : D} : L2.atI (d :: e :: f :: ds) 2 = some f := by
  simp [L2.atI, L2.ixN]
  rw [if_pos (by omega)]; rfl
theorem ix_last : L2.atI (ds ++ [d]) (-1) = some d := by
  have e : (ds ++ [d]).length = ds.length + 1 := by simp
  have e2 : L2.ixN (ds.length + 1) (-1) = some ds.length := by
    unfold L2.ixN
    rw [if_neg (by decide), if_pos (by omega)]
    congr 1
    omega
  unfold L2.atI
  rw [e, e2]
  simp
/-! truth -/
theorem tru_bl : tru s (.bl b) = some b := rfl
theorem tru_int : tru s (.int i) = some (i != 0) := rfl
theorem tru_non : tru s .non = some false := rfl
theorem tru_tup : tru s (.tup ds) = some (!ds.isEmpty) := rfl
theorem tru_lst : tru s (.lst ds) = some (!ds.isEmpty) := rfl
/-! the store -/
theorem at_last {t : Sto} {x : D} : (t ++ [x])[t.length]? = some x := by simp
theorem at_last2 {t : Sto} {x y : D} : (t ++ [x] ++ [y])[t.length]? = some x := by simp
theorem at_last3 {t : Sto} {x y z : D} : (t ++ [x] ++ [y] ++ [z])[t.length]? = some x := by simp
theorem set_last {t : Sto} {x y : D} : (t ++ [x]).set t.length y = t ++ [y] := by simp [List.set_append]
theorem set_last2 {t : Sto} {x y z : D} : (t ++ [x] ++ [z]).set t.length y = t ++ [y] ++ [z] := by simp [List.set_append]
theorem set_last3 {t : Sto} {x y z u : D} : (t ++ [x] ++ [z] ++ [u]).set t.length y = t ++ [y] ++ [z] ++ [u] := by simp [List.set_append]
theorem len_app {t : Sto} {x : D} : (t ++ [x]).length = t.length + 1 := by simp
/-- the object that a reference means -/
theorem look_at {n : Nat} (h : s[n]? = some d) : look s (.ref n) = d := by simp only [look, h, Option.getD_some]
theorem isTy_at {n : Nat} (h : s[n]? = some (.lst ds)) : isTy "list" s (.ref n) = true := by unfold isTy; rw [look_at h]; rfl
theorem o_append {n : Nat} (h : s[n]? = some (.lst ds)) : @wpo (apn T .append s [.ref n, d]) Q = (ds.length < sizeLine ∧ Q .non (s.set n (.lst (ds ++ [d])))) := by
  simp only [apn, two, mutL, h]
  exact wpo_if
theorem o_extend {n : Nat} (h : s[n]? = some (.lst ds)) : @wpo (apn T .extend s [.ref n, .lst es]) Q = (ds.length + es.length ≤ sizeLine ∧ Q .non (s.set n (.lst (ds ++ es)))) := by
  simp only [apn, two, apExtend, mutL, h, look]
  exact wpo_if
theorem o_ixR {n : Nat} (h : s[n]? = some (.lst ds)) : @wpo (ap2 .ix s (.ref n) (.int i)) Q = @wpo ((L2.atI ds i).bind fun x => ret s x) Q := by
  show @wpo ((seqOf s (.ref n)).bind _) Q = _
  unfold seqOf
  rw [look_at h]
  rfl
theorem o_lenR {n : Nat} (h : s[n]? = some (.lst ds)) : @wpo (apn T .len s [.ref n]) Q = Q (.int (ds.length : Int)) s := by
  show @wpo ((seqOf s (.ref n)).bind _) Q = _
  unfold seqOf
  rw [look_at h]
  rfl
theorem o_addR {n : Nat} (h : s[n]? = some (.lst ds)) : @wpo (ap2 (.add false) s (.ref n) (.lst es)) Q = (ds.length + es.length ≤ sizeLine ∧ Q (.lst (ds ++ es)) s) := by
  have e : ap2 (.add false) s (.ref n) (.lst es) = if ds.length + es.length ≤ sizeLine then newL false s (ds ++ es) else none := by
    show apAdd false s (.ref n) (.lst es) = _
    simp only [apAdd, look, h, Option.getD_some]
  rw [e, wpo_if]
  rfl
theorem o_tupleR {n : Nat} (h : s[n]? = some (.lst ds)) : @wpo (apn T .tuple s [.ref n]) Q = Q (.tup ds) s := by
  show @wpo (apTuple s (.ref n)) Q = _
  unfold apTuple
  rw [look_at h]
  rfl
theorem stL_at {n : Nat} {v : D} (h : s[n]? = some (.lst ds)) : stL s (.ref n) (.int i) v = (L2.ixN ds.length i).map fun j => s.set n (.lst (ds.set j v)) := by
  unfold stL
  simp only [h]
end
theorem br_f {A B : Prop} (h : @br false A B) : B := by rwa [br_false] at h
theorem br_t {A B : Prop} (h : @br true A B) : A := by rwa [br_true] at h
/-- a test that leaves all as it is -/
theorem wt_to {G : Gt} {M : Gm} {x : E} {env : Ev} {s : Sto} {QB : Bool → Sto → Prop} {X : Xq} {c : Bool} (h : wt G M x env s (fun b s' => b = c ∧ s' = s) noX) (k : QB c s) : wt G M x env s QB X := R.sat.to h fun b s' ⟨h1, h2⟩ => by subst h1 h2; exact k
theorem wx_to {G : Gt} {M : Gm} {x : E} {env : Ev} {s : Sto} {Q : D → Sto → Prop} {X : Xq} {d : D} (h : wx G M x env s (fun b s' => b = d ∧ s' = s) noX) (k : Q d s) : wx G M x env s Q X := R.sat.to h fun b s' ⟨h1, h2⟩ => by subst h1 h2; exact k
/-! ### defs -/
theorem cl_sat {G : Gt} {r : Nat → List D → Sto → R D} {i : Nat} {ds es : List D} {s : Sto} {Q : D → Sto → Prop} {X : Xq} (hp : G.pb i ds = some es) (h : (r i es s).sat Q X) : @cl G r i ds s Q X := by
  unfold cl posM
  rw [hp]
  exact h
theorem cl_imp {G : Gt} {r : Nat → List D → Sto → R D} {i : Nat} {ds : List D} {s : Sto} {Q Q' : D → Sto → Prop} {X : Xq} (h : @cl G r i ds s Q noX) (k : ∀ d s, Q d s → Q' d s) : @cl G r i ds s Q' X := R.sat.to h k
theorem cl_ok {G : Gt} {r : Nat → List D → Sto → R D} {i : Nat} {ds es : List D} {s s2 : Sto} {d : D} {Q : D → Sto → Prop} {X : Xq} (hp : G.pb i ds = some es) (h : r i es s = .ok d s2) : @cl G r i ds s Q X = Q d s2 := by
  unfold cl posM
  rw [hp]
  show (r i es s).sat Q X = _
  rw [h]
  rfl
/-- what a def hands out -/
def lv (s s2 : Sto) (d : D) [Q : Hd (D → Sto → Prop)] (X : Xq) : Prop := (leave s s2 d).sat Q.v X
theorem lv_same {s : Sto} {d : D} {Q : D → Sto → Prop} {X : Xq} (h : bel s.length d = true) : @lv s s d Q X = Q d s := by
  unfold lv
  rw [leave_same h]
  rfl
theorem okAll_app : ∀ (s t : Sto), okAll s (s ++ t) = true
  | [], _ => rfl
  | a :: s, t => by simp only [List.cons_append, okAll, deq_refl, Bool.true_or, okAll_app s t, Bool.and_self]
theorem leave_app {s t : Sto} {d : D} (h : bel s.length d = true) : leave s (s ++ t) d = .ok d s := by
  unfold leave fz
  rw [if_pos h]
  simp only [okAll_app, if_true, List.take_left]
theorem lv_app {s t : Sto} {d : D} {Q : D → Sto → Prop} {X : Xq} (h : bel s.length d = true) : @lv s (s ++ t) d Q X = Q d s := by
  unfold lv
  rw [leave_app h]
  rfl
/-- a new list is handed out: it becomes data -/
theorem mapO_bel {s2 : Sto} {n k : Nat} : ∀ {ds : List D}, bels n ds = true → mapO (fz s2 n (k + 1)) ds = some ds
  | [], _ => rfl
  | d :: ds, h => by
    simp only [bels, Bool.and_eq_true] at h
    unfold mapO
    rw [show fz s2 n (k + 1) d = some d by unfold fz; rw [if_pos h.1]]
    rw [mapO_bel h.2]
    rfl
theorem leave_new {s : Sto} {ds : List D} (h : bels s.length ds = true) : leave s (s ++ [.lst ds]) (.ref s.length) = .ok (.lst ds) s := by
  unfold leave
  have hf : fz (s ++ [.lst ds]) s.length 20 (.ref s.length) = some (.lst ds) := by
    unfold fz
    rw [if_neg (by simp [bel])]
    simp only [at_last]
    rw [mapO_bel h]
    rfl
  rw [hf]
  simp only [okAll_app, if_true, List.take_left]
theorem lv_new {s : Sto} {ds : List D} {Q : D → Sto → Prop} {X : Xq} (h : bels s.length ds = true) : @lv s (s ++ [.lst ds]) (.ref s.length) Q X = Q (.lst ds) s := by
  unfold lv
  rw [leave_new h]
  rfl
theorem ok_head {p p2 : D} {r : Sto} (h : free p2 = true) (t : Sto) : okAll (p :: r) (p2 :: (r ++ t)) = true := by
  simp only [okAll, h, Bool.or_true, okAll_app, Bool.and_self]
theorem leave_head {p p2 : D} {r t : Sto} {d : D} (hp : free p2 = true) (h : bel (r.length + 1) d = true) : leave (p :: r) (p2 :: (r ++ t)) d = .ok d (p2 :: r) := by
  have h2 : bel (p :: r).length d = true := h
  unfold leave fz
  rw [if_pos h2]
  simp only [ok_head hp, if_true, List.length_cons, List.take_succ_cons, List.take_left]
theorem leave_head0 {p p2 : D} {r : Sto} {d : D} (hp : free p2 = true) (h : bel (r.length + 1) d = true) : leave (p :: r) (p2 :: r) d = .ok d (p2 :: r) := by
  have := leave_head (p := p) (t := []) (r := r) hp h
  rwa [List.append_nil] at this
theorem leave_headN {p p2 : D} {r : Sto} {ds : List D} (hp : free p2 = true) (h : bels (r.length + 1) ds = true) : leave (p :: r) (p2 :: (r ++ [.lst ds])) (.ref (r.length + 1)) = .ok (.lst ds) (p2 :: r) := by
  unfold leave
  have hf : fz (p2 :: (r ++ [.lst ds])) (p :: r).length 20 (.ref (r.length + 1)) = some (.lst ds) := by
    unfold fz
    rw [if_neg (by simp [bel])]
    simp only [List.length_cons, List.getElem?_cons_succ, at_last]
    rw [mapO_bel h]
    rfl
  rw [hf]
  simp only [ok_head hp, if_true, List.length_cons, List.take_succ_cons, List.take_left]
theorem lv_head {p p2 : D} {r t : Sto} {d : D} {Q : D → Sto → Prop} {X : Xq} (hp : free p2 = true) (h : bel (r.length + 1) d = true) : @lv (p :: r) (p2 :: (r ++ t)) d Q X = Q d (p2 :: r) := by
  unfold lv
  rw [leave_head hp h]
  rfl
theorem lv_head0 {p p2 : D} {r : Sto} {d : D} {Q : D → Sto → Prop} {X : Xq} (hp : free p2 = true) (h : bel (r.length + 1) d = true) : @lv (p :: r) (p2 :: r) d Q X = Q d (p2 :: r) := by
  unfold lv
  rw [leave_head0 hp h]
  rfl
theorem lv_headN {p p2 : D} {r : Sto} {ds : List D} {Q : D → Sto → Prop} {X : Xq} (hp : free p2 = true) (h : bels (r.length + 1) ds = true) : @lv (p :: r) (p2 :: (r ++ [.lst ds])) (.ref (r.length + 1)) Q X = Q (.lst ds) (p2 :: r) := by
  unfold lv
  rw [leave_headN hp h]
  rfl
/-- the ends of a def's body -/
def endP (kp : Bool) (s : Sto) (Q : D → Sto → Prop) (X : Xq) : Pq where
  nx := fun _ s2 => if kp = true then Q .non s2 else @lv s s2 .non Q X
  rt := fun d s2 => if kp = true then Q d s2 else @lv s s2 d Q X
  bk := fun _ _ => False
  ct := fun _ _ => False
  ex := fun k ds s2 => (leaveX s s2 k ds).sat Q X
theorem endF_nx {s s2 : Sto} {env : Ev} {Q : D → Sto → Prop} {X : Xq} : (endP false s Q X).nx env s2 = @lv s s2 .non Q X := rfl
theorem endF_rt {s s2 : Sto} {d : D} {Q : D → Sto → Prop} {X : Xq} : (endP false s Q X).rt d s2 = @lv s s2 d Q X := rfl
theorem endT_nx {s s2 : Sto} {env : Ev} {Q : D → Sto → Prop} {X : Xq} : (endP true s Q X).nx env s2 = Q .non s2 := rfl
theorem endT_rt {s s2 : Sto} {d : D} {Q : D → Sto → Prop} {X : Xq} : (endP true s Q X).rt d s2 = Q d s2 := rfl
theorem fn_sat {G : Gt} {P : List Fd} {fu k i : Nat} {f : Fd} {ds : List D} {s : Sto} {Q : D → Sto → Prop} {X : Xq} (hf : P[i]? = some f) (hl : ds.length = f.np) (h : @ws G (lev G P fu k) f.body (startE f.nn ds) s (endP f.keep s Q X)) : (rawL G P fu (k + 2) i ds s).sat Q X := by
  rw [raw_eq hf hl]
  unfold ws at h
  cases hq : evSs G (lev G P fu k) f.body (startE f.nn ds) s with
  | nx env s2 =>
    rw [hq] at h
    have h : (if f.keep = true then Q .non s2 else @lv s s2 .non Q X) := h
    unfold endF
    cases hk : f.keep <;> rw [hk] at h <;> exact h
  | rt d s2 =>
    rw [hq] at h
    have h : (if f.keep = true then Q d s2 else @lv s s2 d Q X) := h
    unfold endF
    cases hk : f.keep <;> rw [hk] at h <;> exact h
  | bk env s2 => rw [hq] at h; exact h.elim
  | ct env s2 => rw [hq] at h; exact h.elim
  | ex k ds env s2 => rw [hq] at h; exact h
  | bad => rw [hq] at h; exact h.elim
/-- a def, called by place -/
theorem fn_cl {G : Gt} {P : List Fd} {fu k i np nn : Nat} {kp : Bool} {b : Stms} {ds es : List D} {s : Sto} {Q : D → Sto → Prop} {X : Xq} (hp : G.pb i ds = some es) (hf : P[i]? = some ⟨np, nn, kp, b⟩) (hl : es.length = np) (h : @ws G (lev G P fu k) b (startE nn es) s (endP kp s Q X)) : @cl G (rawL G P fu (k + 2)) i ds s Q X := cl_sat hp (fn_sat hf hl h)
theorem SR.sat.imp {r : SR} {Q Q' : Pq} (h : r.sat Q) (h1 : ∀ env s, Q.nx env s → Q'.nx env s) (h2 : ∀ d s, Q.rt d s → Q'.rt d s) (h3 : ∀ env s, Q.bk env s → Q'.bk env s) (h4 : ∀ env s, Q.ct env s → Q'.ct env s) (h5 : ∀ k ds s, Q.ex k ds s → Q'.ex k ds s) : r.sat Q' := by
  cases r with
  | nx env s => exact h1 _ _ h
  | rt d s => exact h2 _ _ h
  | bk env s => exact h3 _ _ h
  | ct env s => exact h4 _ _ h
  | ex k ds env s => exact h5 _ _ _ h
  | bad => exact h
/-- an if whose branches meet again in R -/
theorem ws_ifR {G : Gt} {M : Gm} {t : E} {a c ss : Stms} {env : Ev} {s : Sto} {Q : Pq} (R : Ev → Sto → Prop) (h : wt G M t env s (fun b s => @br b (@ws G M a env s (Q.nxt R)) (@ws G M c env s (Q.nxt R))) Q.ex) (k : ∀ env s, R env s → @ws G M ss env s Q) : @ws G M (.cons (.if_ t a c) ss) env s Q := by
  rw [ws_if]
  refine Ir.R.sat.imp h (fun b s2 h => ?_) fun _ _ _ h => h
  cases b with
  | true =>
    rw [br_true] at h ⊢
    exact SR.sat.imp h k (fun _ _ h => h) (fun _ _ h => h) (fun _ _ h => h) fun _ _ _ h => h
  | false =>
    rw [br_false] at h ⊢
    exact SR.sat.imp h k (fun _ _ h => h) (fun _ _ h => h) (fun _ _ h => h) fun _ _ _ h => h
/-! ### loops -/
theorem deqs_same (ds : List D) : deqs ds ds = true := deqs_refl ds
/-- what is walked does not lean on the store -/
def Itb.fix (b : Itb) (ds : List D) : Prop := ∀ s, b.items s = some ds
theorem Itb.fix.lst {ds : List D} : Itb.fix (.seq (.lst ds)) ds := fun _ => rfl
theorem Itb.fix.tup {ds : List D} : Itb.fix (.seq (.tup ds)) ds := fun _ => rfl
theorem Itb.fix.klst {ds : List D} : Itb.fix (.seq (.klst ds)) ds := fun _ => rfl
theorem Itb.fix.enumL {ds : List D} : Itb.fix (.enum (.lst ds)) (numb 0 ds) := fun _ => rfl
theorem Itb.fix.enumT {ds : List D} : Itb.fix (.enum (.tup ds)) (numb 0 ds) := fun _ => rfl
theorem Itb.fix.rng {lo c : Int} {n : Nat} : Itb.fix (.rng lo c n) ((List.range n).map fun (i : Nat) => .int (lo + (i : Int) * c)) := fun _ => rfl
theorem guard_fix {b : Itb} {ds : List D} (h : b.fix ds) (s : Sto) : guard b ds s = true := by
  unfold guard
  rw [h s]
  exact deqs_refl ds
/-- a loop over data, by an invariant of what is done and what is left -/
theorem lp_inv {G : Gt} {M : Gm} {α : Type} {b : Itb} {t : Tg} {body : Stms} {Q : Pq} (f : α → D) (l : List α) (hb : b.fix (l.map f)) (I : List α → List α → Ev → Sto → Prop)
    (step : ∀ done a rest env s, done ++ a :: rest = l → I done (a :: rest) env s → @putK t env (f a) fun env => @ws G M body env s (Q.lop (I (done ++ [a]) rest)))
    (fin : ∀ env s, I l [] env s → Q.nx env s) (env : Ev) (s : Sto) (h0 : I [] l env s) : @lp G M b t body env s Q := by
  have key : ∀ (rest done : List α) (env : Ev) (s : Sto), done ++ rest = l → I done rest env s → (loopS (guard b (l.map f)) t (evSs G M body) (rest.map f) env s).sat Q := by
    intro rest
    induction rest with
    | nil =>
      intro done env s e h
      rw [List.append_nil] at e
      subst e
      unfold loopS
      simp only [List.map_nil, guard_fix hb, if_true]
      exact fin env s h
    | cons a rest ih =>
      intro done env s e h
      have z := step done a rest env s e h
      unfold putK at z
      simp only [List.map_cons, loopS, guard_fix hb, if_true]
      cases hp : t.put env (f a) with
      | none => rw [hp] at z; exact z.elim
      | some env1 =>
        rw [hp] at z
        have z : @ws G M body env1 s (Q.lop (I (done ++ [a]) rest)) := z
        unfold ws at z
        have e2 : (done ++ [a]) ++ rest = l := by rw [List.append_assoc]; exact e
        dsimp only
        cases hq : evSs G M body env1 s with
        | nx env2 s2 => rw [hq] at z; exact ih _ _ _ e2 z
        | ct env2 s2 => rw [hq] at z; exact ih _ _ _ e2 z
        | bk env2 s2 => rw [hq] at z; exact z
        | rt d s2 => rw [hq] at z; exact z
        | ex k ds env s2 => rw [hq] at z; exact z
        | bad => rw [hq] at z; exact z.elim
  unfold lp
  rw [hb s]
  exact key l [] env s rfl h0
theorem guard_at {b : Itb} {ds : List D} {s : Sto} (h : b.items s = some ds) : guard b ds s = true := by
  unfold guard
  rw [h]
  exact deqs_refl ds
/-- a loop over what the store holds, by an invariant of what is done and what is left -/
theorem lp_inv2 {G : Gt} {M : Gm} {α : Type} {b : Itb} {t : Tg} {body : Stms} {Q : Pq} (f : α → D) (l : List α) (I : List α → List α → Ev → Sto → Prop)
    (step : ∀ done a rest env s, done ++ a :: rest = l → I done (a :: rest) env s → @putK t env (f a) fun env => @ws G M body env s (Q.lop (I (done ++ [a]) rest)))
    (hb : ∀ done rest env s, I done rest env s → b.items s = some (l.map f)) (fin : ∀ env s, I l [] env s → Q.nx env s) (env : Ev) (s : Sto) (h0 : I [] l env s) : @lp G M b t body env s Q := by
  have key : ∀ (rest done : List α) (env : Ev) (s : Sto), done ++ rest = l → I done rest env s → (loopS (guard b (l.map f)) t (evSs G M body) (rest.map f) env s).sat Q := by
    intro rest
    induction rest with
    | nil =>
      intro done env s e h
      rw [List.append_nil] at e
      subst e
      unfold loopS
      simp only [List.map_nil, guard_at (hb _ _ _ _ h), if_true]
      exact fin env s h
    | cons a rest ih =>
      intro done env s e h
      have z := step done a rest env s e h
      unfold putK at z
      simp only [List.map_cons, loopS, guard_at (hb _ _ _ _ h), if_true]
      cases hp : t.put env (f a) with
      | none => rw [hp] at z; exact z.elim
      | some env1 =>
        rw [hp] at z
        have z : @ws G M body env1 s (Q.lop (I (done ++ [a]) rest)) := z
        unfold ws at z
        have e2 : (done ++ [a]) ++ rest = l := by rw [List.append_assoc]; exact e
        dsimp only
        cases hq : evSs G M body env1 s with
        | nx env2 s2 => rw [hq] at z; exact ih _ _ _ e2 z
        | ct env2 s2 => rw [hq] at z; exact ih _ _ _ e2 z
        | bk env2 s2 => rw [hq] at z; exact z
        | rt d s2 => rw [hq] at z; exact z
        | ex k ds env s2 => rw [hq] at z; exact z
        | bad => rw [hq] at z; exact z.elim
  unfold lp
  rw [hb _ _ _ _ h0]
  exact key l [] env s rfl h0
/-- a while loop, by an invariant and a measure -/
theorem lw_inv {G : Gt} {M : Gm} {x : E} {body : Stms} {Q : Pq} (I : Nat → Ev → Sto → Prop)
    (step : ∀ n env s, I n env s → wt G M x env s (fun b s => @br b (@ws G M body env s (Q.lop fun env s => ∃ m, m < n ∧ I m env s)) (Q.nx env s)) Q.ex)
    (n : Nat) (hn : n < M.fu) (env : Ev) (s : Sto) (h : I n env s) : @lw G M x body env s Q := by
  have key : ∀ (f n : Nat) (env : Ev) (s : Sto), n < f → I n env s → (whileS (evp G M x).2 (evSs G M body) f env s).sat Q := by
    intro f
    induction f with
    | zero => intro n env s h _; omega
    | succ f ih =>
      intro n env s hf h
      have z := step n env s h
      unfold wt at z
      unfold whileS
      rw [sat_st]
      refine z.imp (fun b s2 hb => ?_) fun _ _ _ h => h
      cases b with
      | false => rw [br_false] at hb; exact hb
      | true =>
        rw [br_true] at hb
        unfold ws at hb
        simp only [if_true]
        cases hq : evSs G M body env s2 with
        | nx env2 s2 => rw [hq] at hb; obtain ⟨m, hm, hb⟩ := hb; exact ih m _ _ (by omega) hb
        | ct env2 s2 => rw [hq] at hb; obtain ⟨m, hm, hb⟩ := hb; exact ih m _ _ (by omega) hb
        | bk env2 s2 => rw [hq] at hb; exact hb
        | rt d s2 => rw [hq] at hb; exact hb
        | ex k ds env s2 => rw [hq] at hb; exact hb
        | bad => rw [hq] at hb; exact hb.elim
  exact key M.fu n env s hn h
/-! ### comprehensions -/
/-- a comprehension, not entered before what it makes is told -/
def lc (G : Gt) (M : Gm) (m : Bool) (b : Itb) (t : Tg) (own : List Nat) (q e : E) (env : Ev) (s : Sto) [Q : Hd (D → Sto → Prop)] (X : Xq) : Prop := (match b.items s with
  | some ds => match loopC (guard b ds) t (evp G M q).2 (evp G M e).1 (wipeE env own) s.length ds (s ++ [.lst []]) with
    | some s' => if m = true then .ok (.ref s.length) s' else leave s s' (.ref s.length)
    | none => .bad
  | none => .bad : R D).sat Q.v X
theorem wx_comp {G : Gt} {M : Gm} {m : Bool} {it : I} {t : Tg} {own : List (Str × Nat)} {q e : E} {env : Ev} {s : Sto} {Q : D → Sto → Prop} {X : Xq} : wx G M (.comp m it t own q e) env s Q X = wi G M it env s (fun b s => @lc G M m b t (own.map (·.2)) q e env s Q X) X := by
  show (mComp m (evi G M it) t (own.map (·.2)) (evp G M q).2 (evp G M e).1 env s).sat Q X = _
  unfold mComp
  rw [sat_bind]
  rfl
/-- a comprehension over data, by an invariant of what is done, what is left, what is made -/
theorem lc_inv {G : Gt} {M : Gm} {α : Type} {b : Itb} {m : Bool} {t : Tg} {own : List Nat} {q e : E} {env : Ev} {Q : D → Sto → Prop} {X : Xq} (f : α → D) (l : List α) (hb : b.fix (l.map f)) (n : Nat) (hl : l.length ≤ sizeLine) (I : List α → List α → List D → Sto → Prop)
    (hI : ∀ done rest acc s, I done rest acc s → s.length = n)
    (step : ∀ done a rest acc s, done ++ a :: rest = l → acc.length ≤ done.length → I done (a :: rest) acc s → @putK t (wipeE env own) (f a) fun env1 => wt G M q env1 (s ++ [.lst acc]) (fun c s1 => @br c (wx G M e env1 s1 (fun d s2 => ∃ s3, s2 = s3 ++ [.lst acc] ∧ I (done ++ [a]) rest (acc ++ [d]) s3) noX) (∃ s3, s1 = s3 ++ [.lst acc] ∧ I (done ++ [a]) rest acc s3)) noX)
    (s : Sto) (fin : ∀ acc s3, I l [] acc s3 → if m = true then Q (.ref n) (s3 ++ [.lst acc]) else @lv s (s3 ++ [.lst acc]) (.ref n) Q X) (h0 : I [] l [] s) : @lc G M m b t own q e env s Q X := by
  have key : ∀ (rest done : List α) (acc : List D) (s1 : Sto), done ++ rest = l → acc.length ≤ done.length → I done rest acc s1 → ∃ acc2 s2, loopC (guard b (l.map f)) t (evp G M q).2 (evp G M e).1 (wipeE env own) n (rest.map f) (s1 ++ [.lst acc]) = some (s2 ++ [.lst acc2]) ∧ I l [] acc2 s2 := by
    intro rest
    induction rest with
    | nil =>
      intro done acc s1 e1 _ h
      rw [List.append_nil] at e1
      subst e1
      unfold loopC
      simp only [List.map_nil, guard_fix hb, if_true]
      exact ⟨acc, s1, rfl, h⟩
    | cons a rest ih =>
      intro done acc s1 e1 hacc h
      have z := step done a rest acc s1 e1 hacc h
      unfold putK at z
      have e2 : (done ++ [a]) ++ rest = l := by rw [List.append_assoc]; exact e1
      simp only [List.map_cons, loopC, guard_fix hb, if_true]
      cases hp : t.put (wipeE env own) (f a) with
      | none => rw [hp] at z; exact z.elim
      | some env1 =>
        rw [hp] at z
        have z : wt G M q env1 (s1 ++ [.lst acc]) _ noX := z
        unfold wt at z
        simp only
        cases hq : (evp G M q).2 env1 (s1 ++ [.lst acc]) with
        | bad => rw [hq] at z; exact z.elim
        | ex k ds s2 => rw [hq] at z; exact z.elim
        | ok c s2 =>
          rw [hq] at z
          cases c with
          | false =>
            replace z := br_f z
            obtain ⟨s3, rfl, h3⟩ := z
            exact ih (done ++ [a]) acc s3 e2 (by simp; omega) h3
          | true =>
            replace z := br_t z
            unfold wx at z
            simp only
            cases hx : (evp G M e).1 env1 s2 with
            | bad => rw [hx] at z; exact z.elim
            | ex k ds s2 => rw [hx] at z; exact z.elim
            | ok d s4 =>
              rw [hx] at z
              obtain ⟨s3, rfl, h3⟩ := z
              have hn := hI _ _ _ _ h3
              simp only
              rw [← hn, at_last]
              have hlen : acc.length < sizeLine := by
                have : (done ++ a :: rest).length = l.length := by rw [e1]
                rw [List.length_append, List.length_cons] at this
                omega
              simp only [hlen, if_true, set_last]
              rw [hn]
              exact ih (done ++ [a]) (acc ++ [d]) s3 e2 (by simp; omega) h3
  have hn := hI _ _ _ _ h0
  unfold lc
  rw [hb s, hn]
  obtain ⟨acc2, s2, e2, h2⟩ := key l [] [] s rfl (Nat.le_refl _) h0
  simp only [e2]
  have := fin acc2 s2 h2
  split
  · rename_i hm
    rw [if_pos hm] at this
    exact this
  · rename_i hm
    rw [if_neg hm] at this
    exact this
/-- a comprehension that leaves the store as it is -/
theorem lc_pure {G : Gt} {M : Gm} {α : Type} {b : Itb} {t : Tg} {own : List Nat} {q e : E} {env : Ev} {Q : D → Sto → Prop} {X : Xq} {s : Sto} (f : α → D) (l : List α) (p : α → Bool) (g : α → D) (hb : b.fix (l.map f)) (hl : l.length ≤ sizeLine)
    (step : ∀ a ∈ l, ∀ acc, @putK t (wipeE env own) (f a) fun env1 => wt G M q env1 (s ++ [.lst acc]) (fun c s1 => c = p a ∧ s1 = s ++ [.lst acc]) noX ∧ (p a = true → wx G M e env1 (s ++ [.lst acc]) (fun d s2 => d = g a ∧ s2 = s ++ [.lst acc]) noX))
    (hg : ∀ a ∈ l, bel s.length (g a) = true) (fin : Q (.lst ((l.filter p).map g)) s) : @lc G M false b t own q e env s Q X := by
  refine lc_inv f l hb s.length hl (fun done _ acc s1 => s1 = s ∧ acc = (done.filter p).map g) (fun _ _ _ _ h => by rw [h.1]) (fun done a rest acc s1 e1 _ ⟨h1, h2⟩ => ?_) s (fun acc s3 ⟨h1, h2⟩ => ?_) ⟨rfl, rfl⟩
  · subst h1 h2
    have ha : a ∈ l := by rw [← e1]; simp
    have z := step a ha ((done.filter p).map g)
    unfold putK at z ⊢
    cases hp : t.put (wipeE env own) (f a) with
    | none => rw [hp] at z; exact z
    | some env1 =>
      rw [hp] at z
      refine z.1.imp (fun c s2 ⟨hc, hs⟩ => ?_) fun _ _ _ h => h
      subst hc hs
      cases hpa : p a with
      | false =>
        rw [br_false]
        exact ⟨_, rfl, rfl, by simp [List.filter_append, hpa]⟩
      | true =>
        rw [br_true]
        refine (z.2 hpa).imp (fun d s2 ⟨hd, hs⟩ => ?_) fun _ _ _ h => h
        subst hd hs
        exact ⟨_, rfl, rfl, by simp [List.filter_append, hpa]⟩
  · subst h1 h2
    rw [if_neg (by decide)]
    rw [lv_new]
    · exact fin
    · have : ∀ l' : List α, (∀ a ∈ l', bel s3.length (g a) = true) → bels s3.length (l'.map g) = true := by
        intro l'
        induction l' with
        | nil => intro _; rfl
        | cons x xs ih => intro h; simp only [List.map_cons, bels, h x (by simp), ih fun a ha => h a (by simp [ha]), Bool.and_self]
      exact this _ fun a ha => hg a (List.mem_filter.mp ha).1
end Ir
end
section
set_option Elab.async false
set_option linter.all false
set_option maxRecDepth 100000
namespace Ir
open PySem
/-! ### data that is compared -/
/-- plain data of at most this depth -/
def okd (n : Nat) (d : D) : Prop := ∃ p, pd d = some p ∧ p.canLay0 = true ∧ p.depth ≤ n
def okds (n : Nat) (ds : List D) : Prop := ∃ ps, pds ds = some ps ∧ PyData.canLayAll0 ps = true ∧ PyData.depthAll ps ≤ n
theorem okd_mono {n m : Nat} {d : D} (h : n ≤ m) (k : okd n d) : okd m d := let ⟨p, a, b, c⟩ := k; ⟨p, a, b, Nat.le_trans c h⟩
theorem okds_mono {n m : Nat} {ds : List D} (h : n ≤ m) (k : okds n ds) : okds m ds := let ⟨p, a, b, c⟩ := k; ⟨p, a, b, Nat.le_trans c h⟩
theorem okd_non {n : Nat} : okd n .non := ⟨.none, by simp only [pd], by simp only [PyData.canLay0], by simp only [PyData.depth]; omega⟩
theorem okd_bl {n : Nat} {b : Bool} : okd n (.bl b) := ⟨.bool b, by simp only [pd], by simp only [PyData.canLay0], by simp only [PyData.depth]; omega⟩
theorem okd_int {n : Nat} {i : Int} : okd n (.int i) := ⟨.int i, by simp only [pd], by simp only [PyData.canLay0], by simp only [PyData.depth]; omega⟩
theorem okds_nil {n : Nat} : okds n [] := ⟨[], by simp only [pds], by simp only [PyData.canLayAll0], by simp only [PyData.depthAll]; omega⟩
theorem okds_cons {n : Nat} {d : D} {ds : List D} (h : okd n d) (k : okds n ds) : okds n (d :: ds) := by
  obtain ⟨p, a, b, c⟩ := h
  obtain ⟨ps, a2, b2, c2⟩ := k
  exact ⟨p :: ps, by simp only [pds, a, a2, Option.bind_some, Option.map_some], by simp only [PyData.canLayAll0, b, b2, Bool.and_self], by simp only [PyData.depthAll]; omega⟩
theorem okd_tup {n : Nat} {ds : List D} (h : okds n ds) : okd (n + 1) (.tup ds) := by
  obtain ⟨ps, a, b, c⟩ := h
  exact ⟨.tuple ps, by simp only [pd, a, Option.map_some], by simp only [PyData.canLay0, b], by simp only [PyData.depth]; omega⟩
theorem okd_lst {n : Nat} {ds : List D} (h : okds n ds) : okd (n + 1) (.lst ds) := by
  obtain ⟨ps, a, b, c⟩ := h
  exact ⟨.list ps, by simp only [pd, a, Option.map_some], by simp only [PyData.canLay0, b], by simp only [PyData.depth]; omega⟩
theorem okds_map {n : Nat} {α : Type} {f : α → D} : ∀ {l : List α}, (∀ a ∈ l, okd n (f a)) → okds n (l.map f)
  | [], _ => okds_nil
  | a :: l, h => okds_cons (h a (by simp)) (okds_map fun x hx => h x (by simp [hx]))
theorem pdL_of {n : Nat} {s : Sto} {d : D} (h : okd n (look s d)) (hn : n ≤ 64) : ∃ p, pdL s d = some p ∧ pd (look s d) = some p := by
  obtain ⟨p, a, b, c⟩ := h
  refine ⟨p, ?_, a⟩
  unfold pdL
  rw [a]
  simp only [Option.filter, SeqAt.shaped, b, Bool.true_and]
  rw [if_pos (decide_eq_true (Nat.le_trans c hn))]
/-- a list against the empty one -/
theorem pds_isEmpty : ∀ {ds : List D} {ps : List PyData}, pds ds = some ps → ps.isEmpty = ds.isEmpty
  | [], ps, h => by simp only [pds, Option.some.injEq] at h; subst h; rfl
  | d :: ds, ps, h => by
    simp only [pds, Option.bind_eq_some_iff, Option.map_eq_some_iff] at h
    obtain ⟨p, _, qs, _, rfl⟩ := h
    rfl
theorem eqv_nil : ∀ ps : List PyData, PyData.eqv (.list ps) (.list []) = ps.isEmpty
  | [] => rfl
  | _ :: _ => rfl
theorem o_neE {n : Nat} {s : Sto} {d : D} {ds : List D} {Q : D → Sto → Prop} (h : look s d = .lst ds) (k : okds n ds) (hn : n + 1 ≤ 64) : @wpo (ap2 .ne s d (.lst [])) Q = Q (.bl (!ds.isEmpty)) s := by
  obtain ⟨p, e1, e2⟩ := pdL_of (s := s) (d := d) (n := n + 1) (h ▸ okd_lst k) hn
  rw [h] at e2
  simp only [pd, Option.map_eq_some_iff] at e2
  obtain ⟨ps, e3, rfl⟩ := e2
  show @wpo ((pdL s d).bind fun p => (pdL s (.lst [])).bind fun q => ret s (.bl (!PyData.eqv p q))) Q = _
  rw [e1]
  show Q (.bl (!PyData.eqv (.list ps) (.list []))) s = _
  rw [eqv_nil, pds_isEmpty e3]
theorem o_eqE {n : Nat} {s : Sto} {d : D} {ds : List D} {Q : D → Sto → Prop} (h : look s d = .lst ds) (k : okds n ds) (hn : n + 1 ≤ 64) : @wpo (ap2 .eq s d (.lst [])) Q = Q (.bl ds.isEmpty) s := by
  obtain ⟨p, e1, e2⟩ := pdL_of (s := s) (d := d) (n := n + 1) (h ▸ okd_lst k) hn
  rw [h] at e2
  simp only [pd, Option.map_eq_some_iff] at e2
  obtain ⟨ps, e3, rfl⟩ := e2
  show @wpo ((pdL s d).bind fun p => (pdL s (.lst [])).bind fun q => ret s (.bl (PyData.eqv p q))) Q = _
  rw [e1]
  show Q (.bl (PyData.eqv (.list ps) (.list []))) s = _
  rw [eqv_nil, pds_isEmpty e3]
/-- a way of writing values as data, which keeps what is equal -/
structure Eqd {α : Type} [DecidableEq α] (f : α → D) (n : Nat) : Prop where
  ok : ∀ a, okd n (f a)
  eq : ∀ a b p q, pd (f a) = some p → pd (f b) = some q → PyData.eqv p q = decide (a = b)
theorem eqd_int : Eqd D.int 0 := ⟨fun _ => okd_int, fun a b p q h k => by
  simp only [pd, Option.some.injEq] at h k
  subst h k
  exact beq_dec a b⟩
theorem eqv_all {α : Type} [DecidableEq α] {f : α → D} {n : Nat} (h : Eqd f n) : ∀ (l m : List α) (ps qs : List PyData), pds (l.map f) = some ps → pds (m.map f) = some qs → PyData.eqvAll ps qs = decide (l = m)
  | [], [], ps, qs, e, g => by simp only [List.map_nil, pds, Option.some.injEq] at e g; subst e g; rfl
  | [], b :: m, ps, qs, e, g => by
    simp only [List.map_nil, List.map_cons, pds, Option.some.injEq, Option.bind_eq_some_iff, Option.map_eq_some_iff] at e g
    obtain ⟨p, _, rs, _, rfl⟩ := g
    subst e
    simp only [PyData.eqvAll]
    simp
  | a :: l, [], ps, qs, e, g => by
    simp only [List.map_nil, List.map_cons, pds, Option.some.injEq, Option.bind_eq_some_iff, Option.map_eq_some_iff] at e g
    obtain ⟨p, _, rs, _, rfl⟩ := e
    subst g
    simp only [PyData.eqvAll]
    simp
  | a :: l, b :: m, ps, qs, e, g => by
    simp only [List.map_cons, pds, Option.bind_eq_some_iff, Option.map_eq_some_iff] at e g
    obtain ⟨p, e1, rs, e2, rfl⟩ := e
    obtain ⟨q, g1, us, g2, rfl⟩ := g
    simp only [PyData.eqvAll, h.eq a b p q e1 g1, eqv_all h l m rs us e2 g2, List.cons.injEq, Bool.decide_and]
theorem Eqd.tup {α : Type} [DecidableEq α] {f : α → D} {n : Nat} (h : Eqd f n) : Eqd (fun l : List α => D.tup (l.map f)) (n + 1) :=
  ⟨fun l => okd_tup (okds_map fun a _ => h.ok a), fun l m p q e g => by
    simp only [pd, Option.map_eq_some_iff] at e g
    obtain ⟨ps, e1, rfl⟩ := e
    obtain ⟨qs, g1, rfl⟩ := g
    simp only [PyData.eqv]
    exact eqv_all h l m ps qs e1 g1⟩
theorem Eqd.lst {α : Type} [DecidableEq α] {f : α → D} {n : Nat} (h : Eqd f n) : Eqd (fun l : List α => D.lst (l.map f)) (n + 1) :=
  ⟨fun l => okd_lst (okds_map fun a _ => h.ok a), fun l m p q e g => by
    simp only [pd, Option.map_eq_some_iff] at e g
    obtain ⟨ps, e1, rfl⟩ := e
    obtain ⟨qs, g1, rfl⟩ := g
    simp only [PyData.eqv]
    exact eqv_all h l m ps qs e1 g1⟩
theorem Eqd.pair {α β : Type} [DecidableEq α] [DecidableEq β] {f : α → D} {g : β → D} {n : Nat} (h : Eqd f n) (k : Eqd g n) : Eqd (fun x : α × β => D.tup [f x.1, g x.2]) (n + 1) :=
  ⟨fun x => okd_tup (okds_cons (h.ok _) (okds_cons (k.ok _) okds_nil)), fun x y p q e g' => by
    obtain ⟨a, b⟩ := x
    obtain ⟨c, d⟩ := y
    simp only [pd, pds, Option.map_eq_some_iff, Option.bind_eq_some_iff] at e g'
    obtain ⟨ps, ⟨p1, e1, r1, ⟨p2, e2, r2, e3, rfl⟩, rfl⟩, rfl⟩ := e
    obtain ⟨qs, ⟨q1, g1, t1, ⟨q2, g2, t2, g3, rfl⟩, rfl⟩, rfl⟩ := g'
    simp only [Option.some.injEq] at e3 g3
    subst e3 g3
    simp only [PyData.eqv, PyData.eqvAll, h.eq a c p1 q1 e1 g1, k.eq b d p2 q2 e2 g2, Prod.mk.injEq, Bool.decide_and, Bool.and_true]⟩
theorem o_eqD {α : Type} [DecidableEq α] {f : α → D} {n : Nat} (h : Eqd f n) (hn : n ≤ 64) {s : Sto} {d e : D} {a b : α} {Q : D → Sto → Prop} (h1 : look s d = f a) (h2 : look s e = f b) : @wpo (ap2 .eq s d e) Q = Q (.bl (decide (a = b))) s := by
  obtain ⟨p, e1, e2⟩ := pdL_of (s := s) (d := d) (n := n) (h1 ▸ h.ok a) hn
  obtain ⟨q, g1, g2⟩ := pdL_of (s := s) (d := e) (n := n) (h2 ▸ h.ok b) hn
  rw [h1] at e2
  rw [h2] at g2
  show @wpo ((pdL s d).bind fun p => (pdL s e).bind fun q => ret s (.bl (PyData.eqv p q))) Q = _
  rw [e1, g1]
  show Q (.bl (PyData.eqv p q)) s = _
  rw [h.eq a b p q e2 g2]
theorem o_neD {α : Type} [DecidableEq α] {f : α → D} {n : Nat} (h : Eqd f n) (hn : n ≤ 64) {s : Sto} {d e : D} {a b : α} {Q : D → Sto → Prop} (h1 : look s d = f a) (h2 : look s e = f b) : @wpo (ap2 .ne s d e) Q = Q (.bl (!decide (a = b))) s := by
  obtain ⟨p, e1, e2⟩ := pdL_of (s := s) (d := d) (n := n) (h1 ▸ h.ok a) hn
  obtain ⟨q, g1, g2⟩ := pdL_of (s := s) (d := e) (n := n) (h2 ▸ h.ok b) hn
  rw [h1] at e2
  rw [h2] at g2
  show @wpo ((pdL s d).bind fun p => (pdL s e).bind fun q => ret s (.bl (!PyData.eqv p q))) Q = _
  rw [e1, g1]
  show Q (.bl (!PyData.eqv p q)) s = _
  rw [h.eq a b p q e2 g2]
theorem seqOf_app {s t : Sto} {d : D} {ds : List D} (h : seqOf s d = some ds) : seqOf (s ++ t) d = some ds := by
  by_cases q : ∃ n, d = .ref n
  · obtain ⟨n, rfl⟩ := q
    unfold seqOf look at h ⊢
    dsimp only at h ⊢
    cases hs : s[n]? with
    | none => rw [hs] at h; cases h
    | some x =>
      rw [hs] at h
      have hlt := (List.getElem?_eq_some_iff.mp hs).1
      rw [List.getElem?_append_left hlt, hs]
      exact h
  · unfold seqOf at h ⊢
    rw [look_ref fun n e => q ⟨n, e⟩] at h ⊢
    exact h
theorem look_app {s t : Sto} {n : Nat} {x : D} (h : s[n]? = some x) : look (s ++ t) (.ref n) = x := by
  have hlt := (List.getElem?_eq_some_iff.mp h).1
  simp only [look, List.getElem?_append_left hlt, h, Option.getD_some]
theorem look_last {t : Sto} {x : D} : look (t ++ [x]) (.ref t.length) = x := by simp only [look, at_last, Option.getD_some]
theorem look_lst' {s : Sto} {ds : List D} : look s (.lst ds) = .lst ds := rfl
theorem look_tup' {s : Sto} {ds : List D} : look s (.tup ds) = .tup ds := rfl
/-- a def that writes at the youngest object -/
theorem okAll_upd : ∀ (s : Sto) (a b : D) (t : Sto), free b = true → okAll (s ++ [a]) (s ++ b :: t) = true
  | [], a, b, t, h => by simp only [List.nil_append, okAll, h, Bool.or_true, Bool.and_self]
  | x :: s, a, b, t, h => by simp only [List.cons_append, okAll, deq_refl, Bool.true_or, okAll_upd s a b t h, Bool.and_self]
theorem leave_upd {s : Sto} {a b d : D} (hb : free b = true) (hd : bel s.length d = true) : leave (s ++ [a]) (s ++ [b]) d = .ok d (s ++ [b]) := by
  unfold leave fz
  have hd2 : bel (s ++ [a]).length d = true := bel_mono (by simp) d hd
  rw [if_pos hd2]
  simp only [okAll_upd s a b [] hb, if_true]
  rw [List.take_of_length_le (by simp)]
theorem lv_upd {s : Sto} {a b d : D} {Q : D → Sto → Prop} {X : Xq} (hb : free b = true) (hd : bel s.length d = true) : @lv (s ++ [a]) (s ++ [b]) d Q X = Q d (s ++ [b]) := by
  unfold lv
  rw [leave_upd hb hd]
  rfl
theorem leave_ins {s : Sto} {c : Nat} {ks : List Str} {ds : List D} (h : bels s.length ds = true) : leave s (s ++ [.ins c ks ds]) (.ref s.length) = .ok (.ins c ks ds) s := by
  unfold leave
  have hf : fz (s ++ [.ins c ks ds]) s.length 20 (.ref s.length) = some (.ins c ks ds) := by
    unfold fz
    rw [if_neg (by simp [bel])]
    simp only [at_last]
    rw [mapO_bel h]
    rfl
  rw [hf]
  simp only [okAll_app, if_true, List.take_left]
/-- a new instance, frozen -/
theorem mkd_ok {G : Gt} {kc i : Nat} {r : Nat → List D → Sto → R D} {ds : List D} {s : Sto} {Q : D → Sto → Prop} {X : Xq} {ks : List Str} {fs : List D} (h : @cl G r i (.ref s.length :: ds) (s ++ [.ins kc [] []]) (fun (d : D) (s2 : Sto) => d = .non ∧ s2 = s ++ [.ins kc ks fs]) noX) (hb : bels s.length fs = true) (hq : Q (.ins kc ks fs) s) : @mkd G false kc r i ds s Q X := by
  unfold mkd made
  rw [sat_bind]
  refine R.sat.to h fun d s2 ⟨h1, h2⟩ => ?_
  subst h1 h2
  simp only [isNon, if_true, Bool.false_eq_true, if_false]
  rw [leave_ins hb]
  exact hq
/-- a new instance that may change -/
theorem mkd_okm {G : Gt} {kc i : Nat} {r : Nat → List D → Sto → R D} {ds : List D} {s : Sto} {Q : D → Sto → Prop} {X : Xq} {o : D} (h : @cl G r i (.ref s.length :: ds) (s ++ [.ins kc [] []]) (fun (d : D) (s2 : Sto) => d = .non ∧ s2 = s ++ [o]) noX) (hq : Q (.ref s.length) (s ++ [o])) : @mkd G true kc r i ds s Q X := by
  unfold mkd made
  rw [sat_bind]
  refine R.sat.to h fun d s2 ⟨h1, h2⟩ => ?_
  subst h1 h2
  simp only [isNon, if_true]
  exact hq
theorem stF_at {s : Sto} {n k : Nat} {F : Nat → Str → Bool} {f : Str} {v : D} {ks : List Str} {ds : List D} (h : s[n]? = some (.ins k ks ds)) (hF : F k f = true) (hk : ks.length < 1000) : stF s (.ref n) F f v = some (s.set n (.ins k (putFld f v ks ds).1 (putFld f v ks ds).2)) := by
  unfold stF
  simp only [h]
  rw [if_pos ⟨hF, hk⟩]
theorem perm_erase {α : Type} : ∀ (l : List α) (i : Nat) (h : i < l.length), (l[i] :: l.eraseIdx i).Perm l
  | a :: l, 0, _ => .refl _
  | a :: l, i + 1, h => by
    have h2 : i < l.length := by simpa using h
    show (l[i] :: a :: l.eraseIdx i).Perm (a :: l)
    exact (List.Perm.swap _ _ _).trans ((perm_erase l i h2).cons a)
theorem map_erase {α β : Type} (f : α → β) : ∀ (l : List α) (i : Nat), (l.map f).eraseIdx i = (l.eraseIdx i).map f
  | [], _ => rfl
  | a :: l, 0 => rfl
  | a :: l, i + 1 => by
    show f a :: (l.map f).eraseIdx i = f a :: (l.eraseIdx i).map f
    rw [map_erase f l i]
end Ir
end
section
set_option Elab.async false
set_option linter.all false
set_option maxRecDepth 100000
/-! words of calls with stars and keywords, of builtin methods -/
namespace Ir
open PySem
/-- a call with keywords, not entered before it is told -/
def clk (G : Gt) (r : Nat → List D → Sto → R D) (i : Nat) (ks : List Str) (ds zs : List D) (s : Sto) [Q : Hd (D → Sto → Prop)] (X : Xq) : Prop := (posK G r i ks ds zs s).sat Q.v X
def mkdk (G : Gt) (n : Bool) (kc : Nat) (r : Nat → List D → Sto → R D) (i : Nat) (ks : List Str) (ds zs : List D) (s : Sto) [Q : Hd (D → Sto → Prop)] (X : Xq) : Prop := (made n kc (fun es s => posK G r i ks es zs s) ds s).sat Q.v X
/-- the items of a list or tuple, where they are known -/
def sqK (o : Option (List D)) [k : Hd (List D → Prop)] : Prop := match o with
  | some xs => k.v xs
  | none => False
theorem sqK_some {xs : List D} {k : List D → Prop} : @sqK (some xs) k = k xs := rfl
theorem seqO_lst {s : Sto} {ds : List D} : seqOf s (.lst ds) = some ds := rfl
theorem seqO_tup {s : Sto} {ds : List D} : seqOf s (.tup ds) = some ds := rfl
theorem seqO_klst {s : Sto} {ds : List D} : seqOf s (.klst ds) = some ds := rfl
def dropE : Nat → Es → Es
  | 0, xs => xs
  | n + 1, .cons _ xs => dropE n xs
  | _ + 1, .nil => .nil
theorem dropE_zero {xs : Es} : dropE 0 xs = xs := by cases xs <;> rfl
theorem dropE_succ {n : Nat} {x : E} {xs : Es} : dropE (n + 1) (.cons x xs) = dropE n xs := rfl
theorem evs_drop {G : Gt} {M : Gm} : ∀ (n : Nat) (xs : Es), (evs G M xs).drop n = evs G M (dropE n xs)
  | 0, xs => by rw [dropE_zero, List.drop_zero]
  | n + 1, .nil => by simp [evs, dropE]
  | n + 1, .cons x xs => by simp only [evs, List.drop_succ_cons, dropE]; exact evs_drop n xs
/-- positional values, those with a star spread -/
def wsq (G : Gt) (M : Gm) : List Bool → Es → Ev → Sto → (List D → Sto → Prop) → Xq → Prop
  | false :: st, .cons x xs, env, s, Q, X => wx G M x env s (fun d s => wsq G M st xs env s (fun ds s => Q (d :: ds) s) X) X
  | true :: st, .cons x xs, env, s, Q, X => wx G M x env s (fun d s => @sqK (seqOf s d) fun ys => wsq G M st xs env s (fun ds s => Q (ys ++ ds) s) X) X
  | _, _, _, s, Q, _ => Q [] s
section
variable {G : Gt} {M : Gm} {env : Ev} {s : Sto} {Q : D → Sto → Prop} {X : Xq} {x y : E} {xs : Es} {i kc : Nat} {m : Str} {QL : List D → Sto → Prop} {st : List Bool} {ks : List Str}
theorem wsq_nil : wsq G M [] xs env s QL X = QL [] s := by cases xs <;> rfl
theorem wsq_f : wsq G M (false :: st) (.cons x xs) env s QL X = wx G M x env s (fun d s => wsq G M st xs env s (fun ds s => QL (d :: ds) s) X) X := rfl
theorem wsq_t : wsq G M (true :: st) (.cons x xs) env s QL X = wx G M x env s (fun d s => @sqK (seqOf s d) fun ys => wsq G M st xs env s (fun ds s => QL (ys ++ ds) s) X) X := rfl
theorem wsq_eq : ∀ (st : List Bool) (xs : Es) (s : Sto) (QL : List D → Sto → Prop), (seqSt st ((evs G M xs).take st.length) env s).sat QL X = wsq G M st xs env s QL X
  | [], xs, s, QL => by rw [wsq_nil]; rfl
  | b :: st, .nil, s, QL => by cases b <;> rfl
  | false :: st, .cons x xs, s, QL => by
    rw [wsq_f]
    show (sCons (evp G M x).1 (seqSt st ((evs G M xs).take st.length)) env s).sat QL X = _
    unfold sCons
    rw [sat_bind]
    simp only [sat_bind, wsq_eq st xs]
    rfl
  | true :: st, .cons x xs, s, QL => by
    rw [wsq_t]
    show (sStar (evp G M x).1 (seqSt st ((evs G M xs).take st.length)) env s).sat QL X = _
    unfold sStar
    rw [sat_bind]
    show R.sat _ _ _ = R.sat _ _ _
    congr 1
    funext d s
    cases seqOf s d with
    | none => rfl
    | some ys =>
      simp only [sat_bind, wsq_eq st xs]
      rfl
/-- the arguments of a call -/
def wag (G : Gt) (M : Gm) (st : List Bool) (xs : Es) (env : Ev) (s : Sto) (K : List D → List D → Sto → Prop) (X : Xq) : Prop := match st, xs with
  | [true], .cons x xs => wx G M x env s (fun d s => wl G M xs env s (fun zs s => @sqK (seqOf s d) fun ys => K ys zs s) X) X
  | st, xs => wsq G M st xs env s (fun ds s => wl G M (dropE st.length xs) env s (fun zs s => K ds zs s) X) X
theorem wag_lone {K : List D → List D → Sto → Prop} : wag G M [true] (.cons x xs) env s K X = wx G M x env s (fun d s => wl G M xs env s (fun zs s => @sqK (seqOf s d) fun ys => K ys zs s) X) X := rfl
theorem wag_nil {K : List D → List D → Sto → Prop} : wag G M [] xs env s K X = wl G M xs env s (fun zs s => K [] zs s) X := by
  have e : wag G M [] xs env s K X = wsq G M [] xs env s (fun ds s => wl G M (dropE 0 xs) env s (fun zs s => K ds zs s) X) X := by cases xs <;> rfl
  rw [e, wsq_nil, dropE_zero]
theorem wag_f {K : List D → List D → Sto → Prop} : wag G M (false :: st) xs env s K X = wsq G M (false :: st) xs env s (fun ds s => wl G M (dropE (st.length + 1) xs) env s (fun zs s => K ds zs s) X) X := rfl
theorem wag_tt {b : Bool} {K : List D → List D → Sto → Prop} : wag G M (true :: b :: st) xs env s K X = wsq G M (true :: b :: st) xs env s (fun ds s => wl G M (dropE (st.length + 1 + 1) xs) env s (fun zs s => K ds zs s) X) X := rfl
theorem mArg_eq {F : List D → List D → Sto → R D} : ∀ (st : List Bool) (xs : Es) (s : Sto) (Q : D → Sto → Prop), (mArg st ((evs G M xs).take st.length) ((evs G M xs).drop st.length) F env s).sat Q X = wag G M st xs env s (fun ds zs s => (F ds zs s).sat Q X) X := by
  intro st xs s Q
  have gen : ((seqSt st ((evs G M xs).take st.length) env s).bind fun xs' s => (seqFs ((evs G M xs).drop st.length) env s).bind fun zs s => F xs' zs s).sat Q X = wsq G M st xs env s (fun ds s => wl G M (dropE st.length xs) env s (fun zs s => (F ds zs s).sat Q X) X) X := by
    rw [sat_bind, ← wsq_eq]
    congr 1
    funext ds s
    rw [sat_bind, evs_drop]
    rfl
  match st, xs with
  | [], xs => exact gen
  | [true], .nil => exact gen
  | [true], .cons x xs =>
    show ((fun env s => ((evp G M x).1 env s).bind fun d s => (seqFs (evs G M xs) env s).bind fun zs s => match seqOf s d with
      | some xs => F xs zs s
      | none => .bad : Fe) env s).sat Q X = _
    rw [wag_lone]
    simp only [sat_bind]
    show R.sat _ _ _ = R.sat _ _ _
    congr 1
    funext d s
    show R.sat _ _ _ = R.sat _ _ _
    congr 1
    funext zs s
    cases seqOf s d <;> rfl
  | false :: st, xs => exact gen
  | true :: b :: st, .nil => exact gen
  | true :: b :: st, .cons x .nil => exact gen
  | true :: b :: st, .cons x (.cons y xs) => exact gen
theorem wx_kfn : wx G M (.x (.kcall (.fn i) st ks) xs) env s Q X = wag G M st xs env s (fun ds zs s => @clk G M.raw i ks ds zs s Q X) X := mArg_eq st xs s Q
theorem wx_kmake {n : Bool} : wx G M (.x (.kcall (.make n kc i) st ks) xs) env s Q X = wag G M st xs env s (fun ds zs s => @mkdk G n kc M.low i ks ds zs s Q X) X := mArg_eq st xs s Q
theorem wx_kown : wx G M (.x (.kcall (.own kc m i) st ks) (.cons x xs)) env s Q X = wx G M x env s (fun d s => isIns s d kc m = true ∧ wag G M st xs env s (fun ds zs s => @clk G M.raw i ks (d :: ds) zs s Q X) X) X := by
  show (kOwn kc m _ st (evp G M x).1 ((evs G M xs).take st.length) ((evs G M xs).drop st.length) env s).sat Q X = _
  unfold kOwn
  rw [sat_bind]
  show R.sat _ _ _ = R.sat _ _ _
  congr 1
  funext d s
  rw [sat_if, mArg_eq]
  rfl
theorem wx_kcmt {n : Str} : wx G M (.x (.kcall (.cmt kc n i) st ks) (.cons x xs)) env s Q X = wx G M x env s (fun d s => isCls d kc = true ∧ wag G M st xs env s (fun ds zs s => @clk G M.raw i ks (.cls kc :: ds) zs s Q X) X) X := by
  show (kCmt kc _ st (evp G M x).1 ((evs G M xs).take st.length) ((evs G M xs).drop st.length) env s).sat Q X = _
  unfold kCmt
  rw [sat_bind]
  show R.sat _ _ _ = R.sat _ _ _
  congr 1
  funext d s
  rw [sat_if, mArg_eq]
  rfl
theorem wx_kmkv {n : Bool} : wx G M (.x (.kcall (.mkv n kc i) st ks) (.cons x xs)) env s Q X = wx G M x env s (fun d s => isCls d kc = true ∧ wag G M st xs env s (fun ds zs s => @mkdk G n kc M.low i ks ds zs s Q X) X) X := by
  show (kMkv n kc _ st (evp G M x).1 ((evs G M xs).take st.length) ((evs G M xs).drop st.length) env s).sat Q X = _
  unfold kMkv
  rw [sat_bind]
  show R.sat _ _ _ = R.sat _ _ _
  congr 1
  funext d s
  rw [sat_if, mArg_eq]
  rfl
theorem wx_bmx {o : Mb} : wx G M (.x (.bmx o) (.cons x xs)) env s Q X = wx G M x env s (fun d s => isTy o.id.1 s d = true ∧ wl G M xs env s (fun ds s => @wpo (o.g s d ds) Q) X) X := by
  show (mBm o.id.1 o.g (evp G M x).1 (seqFs (evs G M xs)) env s).sat Q X = _
  unfold mBm
  rw [sat_bind]
  show R.sat _ _ _ = R.sat _ _ _
  congr 1
  funext d s
  rw [sat_if]
  simp only [sat_bind, sat_ofPo]
  rfl
theorem wx_dzp {n : Bool} : wx G M (.x (.dzp n) (.cons x (.cons y .nil))) env s Q X = wx G M x env s (fun d s => wx G M y env s (fun e s => @wpo (apDzp n s d e) Q) X) X := by
  show (m2g (apDzp n) (evp G M x).1 (evp G M y).1 env s).sat Q X = _
  unfold m2g
  simp only [sat_bind, sat_ofPo]
  rfl
end
/-- a call with keywords is one by the parameters -/
theorem clk_to {G : Gt} {P : List Fd} {fu k i np nn : Nat} {kp : Bool} {b : Stms} {ks : List Str} {ds zs es : List D} {s : Sto} {Q : D → Sto → Prop} {X : Xq} (hp : G.pk i ks ds zs = some es) (hf : P[i]? = some ⟨np, nn, kp, b⟩) (hl : es.length = np) (h : @ws G (lev G P fu k) b (startE nn es) s (endP kp s Q X)) : @clk G (rawL G P fu (k + 2)) i ks ds zs s Q X := by
  unfold clk posK
  rw [hp]
  exact fn_sat (f := ⟨np, nn, kp, b⟩) hf hl h
theorem clk_sat {G : Gt} {r : Nat → List D → Sto → R D} {i : Nat} {ks : List Str} {ds zs es : List D} {s : Sto} {Q : D → Sto → Prop} {X : Xq} (hp : G.pk i ks ds zs = some es) (h : (r i es s).sat Q X) : @clk G r i ks ds zs s Q X := by
  unfold clk posK
  rw [hp]
  exact h
/-- a new instance by a call with keywords, frozen -/
theorem mkdk_ok {G : Gt} {kc i : Nat} {r : Nat → List D → Sto → R D} {kw : List Str} {ds zs : List D} {s : Sto} {Q : D → Sto → Prop} {X : Xq} {ks : List Str} {fs : List D} (h : @clk G r i kw (.ref s.length :: ds) zs (s ++ [.ins kc [] []]) (fun (d : D) (s2 : Sto) => d = .non ∧ s2 = s ++ [.ins kc ks fs]) noX) (hb : bels s.length fs = true) (hq : Q (.ins kc ks fs) s) : @mkdk G false kc r i kw ds zs s Q X := by
  unfold mkdk made
  rw [sat_bind]
  refine R.sat.to h fun d s2 ⟨h1, h2⟩ => ?_
  subst h1 h2
  simp only [isNon, if_true, Bool.false_eq_true, if_false]
  rw [leave_ins hb]
  exact hq
theorem pk_at {l : Ls} {i : Nat} {d : Sd} {ks : List Str} {ds zs es : List D} {b : Kb} (hd : l.defs[i]? = some d) (hb : (d.kb.find? fun b => b.fits ks ds zs) = some b) (he : b.to ds zs = es) : l.G.pk i ks ds zs = some es := by
  show pkOf l.defs[i]? ks ds zs = some es
  rw [hd]
  show (d.kb.find? fun b => b.fits ks ds zs).map (fun b => b.to ds zs) = some es
  rw [hb, ← he]
  rfl
theorem fits_star {b : Kb} {ks : List Str} {ds zs : List D} (h1 : b.ks = ks) (h2 : zs.length = ks.length) (h3 : b.star = true) (h4 : b.n ≤ ds.length) (h5 : ds.length - b.n ≤ sizeLine) : b.fits ks ds zs = true := by
  unfold Kb.fits
  rw [decide_eq_true h1, decide_eq_true h2, if_pos h3, decide_eq_true h4, decide_eq_true h5]
  rfl
theorem fits_plain {b : Kb} {ks : List Str} {ds zs : List D} (h1 : b.ks = ks) (h2 : zs.length = ks.length) (h3 : b.star = false) (h4 : ds.length = b.n) : b.fits ks ds zs = true := by
  unfold Kb.fits
  rw [decide_eq_true h1, decide_eq_true h2, h3, decide_eq_true h4]
  rfl
end Ir
end
section
set_option Elab.async false
set_option linter.all false
set_option maxRecDepth 100000
namespace Ir
open PySem
/-! ### texts and dicts, from the end backwards -/
section
variable {s : Sto} {Q : D → Sto → Prop} {X : Xq} {d e : D} {a b c b2 b3 b4 : Str} {T : Tab} {m : Bool}
theorem okd_str {n : Nat} {x : Str} (h : PyData.strOk x = true) : okd n (.str x) := ⟨.str x, by simp only [pd], by simp only [PyData.canLay0]; exact h, by simp only [PyData.depth]; omega⟩
theorem eqd_bl : Eqd D.bl 0 := ⟨fun _ => okd_bl, fun a b p q h k => by
  simp only [pd, Option.some.injEq] at h k
  subst h k
  simp only [PyData.eqv]
  rw [Bool.eq_iff_iff, beq_iff_eq, decide_eq_true_eq]⟩
/-- two plain data compared -/
theorem o_eqP {n : Nat} {r : Bool} (h1 : okd n (look s d)) (h2 : okd n (look s e)) (hn : n ≤ 64) (h : ∀ p q, pd (look s d) = some p → pd (look s e) = some q → PyData.eqv p q = r) : @wpo (ap2 .eq s d e) Q = Q (.bl r) s := by
  obtain ⟨p, e1, e2⟩ := pdL_of h1 hn
  obtain ⟨q, g1, g2⟩ := pdL_of h2 hn
  show @wpo ((pdL s d).bind fun p => (pdL s e).bind fun q => ret s (.bl (PyData.eqv p q))) Q = _
  rw [e1, g1]
  show Q (.bl (PyData.eqv p q)) s = _
  rw [h p q e2 g2]
theorem o_neP {n : Nat} {r : Bool} (h1 : okd n (look s d)) (h2 : okd n (look s e)) (hn : n ≤ 64) (h : ∀ p q, pd (look s d) = some p → pd (look s e) = some q → PyData.eqv p q = r) : @wpo (ap2 .ne s d e) Q = Q (.bl (!r)) s := by
  obtain ⟨p, e1, e2⟩ := pdL_of h1 hn
  obtain ⟨q, g1, g2⟩ := pdL_of h2 hn
  show @wpo ((pdL s d).bind fun p => (pdL s e).bind fun q => ret s (.bl (!PyData.eqv p q))) Q = _
  rw [e1, g1]
  show Q (.bl (!PyData.eqv p q)) s = _
  rw [h p q e2 g2]
/-- a way of writing values as data that keeps what is equal -/
def EqF {α : Type} [DecidableEq α] (f : α → D) : Prop := ∀ a b p q, pd (f a) = some p → pd (f b) = some q → PyData.eqv p q = decide (a = b)
theorem eqf_str : EqF D.str := fun a b p q h k => by
  simp only [pd, Option.some.injEq] at h k
  subst h k
  simp only [PyData.eqv]
  rw [Bool.eq_iff_iff, beq_iff_eq, decide_eq_true_eq]
theorem EqF.all {α : Type} [DecidableEq α] {f : α → D} (h : EqF f) : ∀ (l m : List α) (ps qs : List PyData), pds (l.map f) = some ps → pds (m.map f) = some qs → PyData.eqvAll ps qs = decide (l = m)
  | [], [], ps, qs, e, g => by simp only [List.map_nil, pds, Option.some.injEq] at e g; subst e g; rfl
  | [], b :: m, ps, qs, e, g => by
    simp only [List.map_nil, List.map_cons, pds, Option.some.injEq, Option.bind_eq_some_iff, Option.map_eq_some_iff] at e g
    obtain ⟨p, _, rs, _, rfl⟩ := g
    subst e
    simp only [PyData.eqvAll]
    simp
  | a :: l, [], ps, qs, e, g => by
    simp only [List.map_nil, List.map_cons, pds, Option.some.injEq, Option.bind_eq_some_iff, Option.map_eq_some_iff] at e g
    obtain ⟨p, _, rs, _, rfl⟩ := e
    subst g
    simp only [PyData.eqvAll]
    simp
  | a :: l, b :: m, ps, qs, e, g => by
    simp only [List.map_cons, pds, Option.bind_eq_some_iff, Option.map_eq_some_iff] at e g
    obtain ⟨p, e1, rs, e2, rfl⟩ := e
    obtain ⟨q, g1, us, g2, rfl⟩ := g
    simp only [PyData.eqvAll, h a b p q e1 g1, h.all l m rs us e2 g2, List.cons.injEq, Bool.decide_and]
theorem EqF.tup {α : Type} [DecidableEq α] {f : α → D} (h : EqF f) : EqF (fun l : List α => D.tup (l.map f)) := fun l m p q e g => by
    simp only [pd, Option.map_eq_some_iff] at e g
    obtain ⟨ps, e1, rfl⟩ := e
    obtain ⟨qs, g1, rfl⟩ := g
    simp only [PyData.eqv]
    exact h.all l m ps qs e1 g1
theorem EqF.lst {α : Type} [DecidableEq α] {f : α → D} (h : EqF f) : EqF (fun l : List α => D.lst (l.map f)) := fun l m p q e g => by
    simp only [pd, Option.map_eq_some_iff] at e g
    obtain ⟨ps, e1, rfl⟩ := e
    obtain ⟨qs, g1, rfl⟩ := g
    simp only [PyData.eqv]
    exact h.all l m ps qs e1 g1
theorem o_eqS (ha : PyData.strOk a = true) (hb : PyData.strOk b = true) : @wpo (ap2 .eq s (.str a) (.str b)) Q = Q (.bl (decide (a = b))) s := o_eqP (n := 0) (okd_str ha) (okd_str hb) (by decide) fun p q h k => eqf_str a b p q h k
theorem o_neS (ha : PyData.strOk a = true) (hb : PyData.strOk b = true) : @wpo (ap2 .ne s (.str a) (.str b)) Q = Q (.bl (!decide (a = b))) s := o_neP (n := 0) (okd_str ha) (okd_str hb) (by decide) fun p q h k => eqf_str a b p q h k
theorem eqv_str : PyData.eqv (.str a) (.str b) = decide (a = b) := by
  simp only [PyData.eqv]
  rw [Bool.eq_iff_iff, beq_iff_eq, decide_eq_true_eq]
theorem pds_strs : ∀ xs : List Str, pds (xs.map D.str) = some (xs.map PyData.str)
  | [] => rfl
  | x :: xs => by simp only [List.map_cons, pds, pd, Option.bind_some, pds_strs xs, Option.map_some]
theorem in_strs {xs : List Str} (ha : PyData.strOk a = true) (hx : ∀ x ∈ xs, PyData.strOk x = true) : apIn s (.str a) (.tup (xs.map D.str)) = some (decide (a ∈ xs)) := by
  have h1 : pdL s (.str a) = some (.str a) := by
    obtain ⟨p, e1, e2⟩ := pdL_of (s := s) (d := .str a) (n := 0) (okd_str ha) (by decide)
    simp only [look, pd, Option.some.injEq] at e2
    rw [e1, e2]
  have h2 : pdL s (.tup (xs.map D.str)) = some (.tuple (xs.map PyData.str)) := by
    obtain ⟨p, e1, e2⟩ := pdL_of (s := s) (d := .tup (xs.map D.str)) (n := 1) (okd_tup (okds_map fun x h => okd_str (hx x h))) (by decide)
    simp only [look, pd, pds_strs, Option.map_some, Option.some.injEq] at e2
    rw [e1, e2]
  show (match pdL s (.str a), pdL s (.tup (xs.map D.str)) with
    | some p, some (.list qs) => some (qs.any fun z => PyData.eqv z p)
    | some p, some (.tuple qs) => if flatP p && qs.all flatP then some (qs.any fun z => PyData.eqv z p) else none
    | _, _ => none) = _
  rw [h1, h2]
  have h3 : (xs.map PyData.str).all flatP = true := by
    rw [List.all_map, List.all_eq_true]
    intro _ _
    rfl
  show (if flatP (.str a) && (xs.map PyData.str).all flatP then some ((xs.map PyData.str).any fun z => PyData.eqv z (.str a)) else none) = _
  rw [h3, show flatP (.str a) = true from rfl, if_pos (by rfl), List.any_map]
  congr 1
  rw [Bool.eq_iff_iff, List.any_eq_true, decide_eq_true_eq]
  constructor
  · rintro ⟨x, hx, e⟩
    rw [show ((fun z => PyData.eqv z (.str a)) ∘ PyData.str) x = PyData.eqv (.str x) (.str a) from rfl, eqv_str, decide_eq_true_eq] at e
    rw [← e]; exact hx
  · intro h
    refine ⟨a, h, ?_⟩
    rw [show ((fun z => PyData.eqv z (.str a)) ∘ PyData.str) a = PyData.eqv (.str a) (.str a) from rfl, eqv_str, decide_eq_true_eq]
theorem o_inS {xs : List Str} (ha : PyData.strOk a = true) (hx : ∀ x ∈ xs, PyData.strOk x = true) : @wpo (ap2 .in_ s (.str a) (.tup (xs.map D.str))) Q = Q (.bl (decide (a ∈ xs))) s := by
  show @wpo ((apIn s (.str a) (.tup (xs.map D.str))).bind fun b => ret s (.bl b)) Q = _
  rw [in_strs ha hx]
  rfl
theorem o_ninS {xs : List Str} (ha : PyData.strOk a = true) (hx : ∀ x ∈ xs, PyData.strOk x = true) : @wpo (ap2 .notin s (.str a) (.tup (xs.map D.str))) Q = Q (.bl (!decide (a ∈ xs))) s := by
  show @wpo ((apIn s (.str a) (.tup (xs.map D.str))).bind fun b => ret s (.bl (!b))) Q = _
  rw [in_strs ha hx]
  rfl
theorem o_in2 (ha : PyData.strOk a = true) (h1 : PyData.strOk b = true) (h2 : PyData.strOk b2 = true) : @wpo (ap2 .in_ s (.str a) (.tup [.str b, .str b2])) Q = Q (.bl (decide (a = b) || decide (a = b2))) s := by
  refine (o_inS (xs := [b, b2]) ha (by intro x hx; simp only [List.mem_cons, List.not_mem_nil, or_false] at hx; rcases hx with rfl | rfl <;> assumption)).trans ?_
  simp
theorem o_in3 (ha : PyData.strOk a = true) (h1 : PyData.strOk b = true) (h2 : PyData.strOk b2 = true) (h3 : PyData.strOk b3 = true) : @wpo (ap2 .in_ s (.str a) (.tup [.str b, .str b2, .str b3])) Q = Q (.bl (decide (a = b) || (decide (a = b2) || decide (a = b3)))) s := by
  refine (o_inS (xs := [b, b2, b3]) ha (by intro x hx; simp only [List.mem_cons, List.not_mem_nil, or_false] at hx; rcases hx with rfl | rfl | rfl <;> assumption)).trans ?_
  simp
theorem o_nin2 (ha : PyData.strOk a = true) (h1 : PyData.strOk b = true) (h2 : PyData.strOk b2 = true) : @wpo (ap2 .notin s (.str a) (.tup [.str b, .str b2])) Q = Q (.bl (!(decide (a = b) || decide (a = b2)))) s := by
  refine (o_ninS (xs := [b, b2]) ha (by intro x hx; simp only [List.mem_cons, List.not_mem_nil, or_false] at hx; rcases hx with rfl | rfl <;> assumption)).trans ?_
  simp
theorem o_nin3 (ha : PyData.strOk a = true) (h1 : PyData.strOk b = true) (h2 : PyData.strOk b2 = true) (h3 : PyData.strOk b3 = true) : @wpo (ap2 .notin s (.str a) (.tup [.str b, .str b2, .str b3])) Q = Q (.bl (!(decide (a = b) || (decide (a = b2) || decide (a = b3))))) s := by
  refine (o_ninS (xs := [b, b2, b3]) ha (by intro x hx; simp only [List.mem_cons, List.not_mem_nil, or_false] at hx; rcases hx with rfl | rfl | rfl <;> assumption)).trans ?_
  simp
theorem eq_bb {x y : Bool} : @wpo (ap2 .eq s (.bl x) (.bl y)) Q = Q (.bl (decide (x = y))) s := o_eqD eqd_bl (by decide) rfl rfl
theorem eq_nb {y : Bool} : @wpo (ap2 .eq s .non (.bl y)) Q = Q (.bl false) s := by cases y <;> rfl
theorem eq_bn {y : Bool} : @wpo (ap2 .eq s (.bl y) .non) Q = Q (.bl false) s := by cases y <;> rfl
theorem ix_st {i : Int} {ds : List D} : @wpo (ap2 .ix s (.tup ds) (.int i)) Q = @wpo ((L2.atI ds i).bind fun x => ret s x) Q := rfl
/-! dicts -/
theorem keyD_str : keyD (.str a) = some (.inr a) := rfl
theorem plainK_strs : ∀ ks : List Str, plainK (ks.map D.str) = true
  | [] => rfl
  | k :: ks => by
    have := plainK_strs ks
    unfold plainK at this ⊢
    simp only [List.map_cons, List.all_cons, this, keyD_str, Option.isSome_some, Bool.and_self]
theorem deq_str : deq (.str a) (.str b) = decide (a = b) := rfl
theorem hasD_strs {a : Str} (ks : List Str) : hasD (.str a) (ks.map D.str) = decide (a ∈ ks) := by
  induction ks with
  | nil => simp [hasD]
  | cons k ks ih =>
    unfold hasD at ih ⊢
    rw [List.map_cons, List.any_cons, ih, deq_str, Bool.eq_iff_iff]
    simp only [Bool.or_eq_true, decide_eq_true_eq, List.mem_cons]
    exact ⟨fun h => h.imp Eq.symm id, fun h => h.imp Eq.symm id⟩
theorem distD_strs : ∀ {ks : List Str}, ks.Nodup → distD (ks.map D.str) = true
  | [], _ => rfl
  | k :: ks, h => by
    rw [List.nodup_cons] at h
    simp only [List.map_cons, distD, hasD_strs, distD_strs h.2, Bool.and_true, Bool.not_eq_true', decide_eq_false_iff_not]
    exact h.1
theorem lookD_strs {f : Str → D} : ∀ {ks : List Str}, a ∈ ks → lookD (.str a) (ks.map D.str) (ks.map f) = some (f a)
  | [], h => by simp at h
  | k :: ks, h => by
    simp only [List.map_cons, lookD, deq_str, decide_eq_true_eq]
    by_cases e : k = a
    · rw [if_pos e, e]
    · rw [if_neg e]
      rcases List.mem_cons.mp h with h | h
      · exact (e h.symm).elim
      · exact lookD_strs h
theorem o_dx {f : Str → D} {ks : List Str} (h : look s d = .dic (ks.map D.str) (ks.map f)) (ha : a ∈ ks) : @wpo (apDx s d (.str a)) Q = Q (f a) s := by
  unfold apDx
  rw [h]
  simp only [plainK_strs, keyD_str, Option.isSome_some, and_self, if_true, lookD_strs ha]
  rfl
theorem o_din {f : Str → D} {ks : List Str} (h : look s d = .dic (ks.map D.str) (ks.map f)) : @wpo (apDin false s (.str a) d) Q = Q (.bl (decide (a ∈ ks))) s := by
  unfold apDin
  rw [h]
  simp only [plainK_strs, keyD_str, Option.isSome_some, and_self, if_true, hasD_strs]
  rfl
/-- keys with one put in -/
def addK (k : Str) (ks : List Str) : List Str := if k ∈ ks then ks else ks ++ [k]
def updF (f : Str → D) (k : Str) (v : D) : Str → D := fun x => if x = k then v else f x
theorem addK_mem {k x : Str} {ks : List Str} : x ∈ addK k ks ↔ x = k ∨ x ∈ ks := by
  unfold addK
  split
  · rename_i h
    exact ⟨.inr, fun h' => h'.elim (fun e => e ▸ h) id⟩
  · rw [List.mem_append, List.mem_singleton, or_comm]
theorem addK_nodup {k : Str} {ks : List Str} (h : ks.Nodup) : (addK k ks).Nodup := by
  unfold addK
  split
  · exact h
  · rename_i hk
    rw [List.nodup_append]
    refine ⟨h, by simp, fun a ha b hb e => ?_⟩
    rw [List.mem_singleton] at hb
    subst e hb
    exact hk ha
theorem addK_len {k : Str} {ks : List Str} : (addK k ks).length ≤ ks.length + 1 := by
  unfold addK
  split <;> simp
theorem putVs_strs {f : Str → D} {v : D} : ∀ ks : List Str, putVs (.str a) v (ks.map D.str) (ks.map f) = ks.map (updF f a v)
  | [] => rfl
  | k :: ks => by
    simp only [List.map_cons, putVs, putVs_strs ks, deq_str, decide_eq_true_eq, updF]
theorem put_strs {f : Str → D} {v : D} {ks : List Str} : putKs (.str a) (ks.map D.str) = (addK a ks).map D.str ∧ putDs (.str a) v (ks.map D.str) (ks.map f) = (addK a ks).map (updF f a v) := by
  unfold putKs putDs addK
  simp only [hasD_strs, decide_eq_true_eq]
  by_cases h : a ∈ ks
  · simp only [if_pos h, putVs_strs, and_self]
  · simp only [if_neg h, List.map_append, List.map_cons, List.map_nil, true_and, updF, if_true]
    congr 1
    refine List.map_congr_left fun x hx => ?_
    unfold updF
    rw [if_neg fun (e : x = a) => h (e ▸ hx)]
theorem stD_at {n : Nat} {f : Str → D} {ks : List Str} {v : D} (h : s[n]? = some (.dic (ks.map D.str) (ks.map f))) (hl : ks.length < sizeLine) : stD s (.ref n) (.str a) v = some (s.set n (.dic ((addK a ks).map D.str) ((addK a ks).map (updF f a v)))) := by
  unfold stD
  simp only [h, plainK_strs, keyD_str, Option.isSome_some, List.length_map, true_and, if_pos hl]
  rw [(put_strs (f := f) (v := v)).1, put_strs.2]
theorem o_dcpy {ks ds : List D} (h : look s d = .dic ks ds) (hp : plainK ks = true) : @wpo (apDcpy false s d) Q = Q (.dic ks ds) s := by
  unfold apDcpy
  rw [h]
  simp only [hp, if_true]
  rfl
theorem o_dlst {ks ds : List D} (h : look s d = .dic ks ds) (hp : plainK ks = true) : @wpo (apDlst false s d) Q = Q (.lst ks) s := by
  unfold apDlst
  rw [h]
  simp only [hp, if_true]
  rfl
theorem o_rvs {ds : List D} : @wpo (apRv false s (.lst ds)) Q = Q (.lst ds.reverse) s := rfl
theorem pairsD_map {f : Str → D} : ∀ ks : List Str, pairsD (ks.map fun k => .tup [.str k, f k]) = some (ks.map D.str, ks.map f)
  | [] => rfl
  | k :: ks => by
    simp only [List.map_cons, pairsD, pairD, keyD_str, Option.isSome_some, if_true, Option.bind_some, pairsD_map ks, Option.map_some]
theorem o_dpr {f : Str → D} {ks : List Str} (h : look s d = .lst (ks.map fun k => .tup [.str k, f k])) (hn : ks.Nodup) : @wpo (apDpr false s d) Q = Q (.dic (ks.map D.str) (ks.map f)) s := by
  unfold apDpr
  rw [h]
  simp only [pairsD_map, Option.bind_some, distD_strs hn, if_true]
  rfl
theorem o_dqe {f : Str → D} {ks : List Str} {neg : Bool} (h1 : look s d = .dic (ks.map D.str) (ks.map f)) (h2 : look s e = .dic (ks.map D.str) (ks.map f)) (hn : ks.Nodup) (hf : flatDs (ks.map f) = true) : @wpo (apDeq neg s d e) Q = Q (.bl (!neg)) s := by
  unfold apDeq
  rw [h1, h2]
  simp only [plainK_strs, distD_strs hn, deqs_refl, hf, and_self, if_true]
  rfl
/-! sets of texts -/
theorem strsOf_map : ∀ xs : List Str, strsOf (xs.map D.str) = some xs
  | [] => rfl
  | x :: xs => by simp only [List.map_cons, strsOf, strsOf_map xs, Option.map_some]
theorem txtsOf_of {xs : List Str} (h : seqOf s d = some (xs.map D.str)) (hl : xs.length ≤ 1000) : txtsOf s d = some xs := by
  unfold txtsOf
  rw [h, Option.bind_some, strsOf_map, Option.filter, if_pos (decide_eq_true hl)]
/-! repr -/
theorem o_rpr {p : PyData} (h : pd (look s d) = some p) (h1 : p.showable = true) (h2 : p.hasDict = false) (h3 : p.depth ≤ 60) (h4 : p.shown.length ≤ sizeLine) : @wpo (apRepr s d) Q = Q (.str p.shown) s := by
  unfold apRepr
  rw [h, Option.bind_some, if_pos ⟨h1, h2, h3, h4⟩]
  rfl
end
end Ir
end
section
set_option Elab.async false
set_option linter.all false
set_option maxRecDepth 100000
namespace Ir
open PySem
/-! ### more rules: new dicts, what leaves beside changed objects, equal data -/
theorem okAll_of : ∀ {s s2 : Sto}, s.length ≤ s2.length → (∀ (i : Nat) (a b : D), s[i]? = some a → s2[i]? = some b → deq b a = true ∨ free b = true) → okAll s s2 = true
  | [], _, _, _ => rfl
  | a :: s, [], h, _ => by simp at h
  | a :: s, b :: s2, h, k => by
    simp only [okAll, Bool.and_eq_true, Bool.or_eq_true]
    exact ⟨k 0 a b rfl rfl, okAll_of (by simpa using h) fun i c d e f => k (i + 1) c d e f⟩
theorem at_h1 {p x : D} {r : Sto} : (p :: (r ++ [x]))[r.length + 1]? = some x := by simp
theorem look_h1 {p x : D} {r : Sto} : look (p :: (r ++ [x])) (.ref (r.length + 1)) = x := look_at at_h1
theorem set_h1 {p x y : D} {r : Sto} : (p :: (r ++ [x])).set (r.length + 1) y = p :: (r ++ [y]) := by simp [List.set_append]
/-- elder objects are as they were, but for one that may be written -/
theorem okAll_set {s u : Sto} {n : Nat} {x : D} (h : free x = true) : okAll s (s.set n x ++ u) = true := by
  refine okAll_of (by simp) fun i a b e f => ?_
  have hi : i < s.length := (List.getElem?_eq_some_iff.mp e).1
  rw [List.getElem?_append_left (by simpa using hi), List.getElem?_set] at f
  split at f
  · rename_i q
    subst q
    simp only [hi, if_true, Option.some.injEq] at f
    subst f
    exact .inr h
  · rw [e] at f
    cases f
    exact .inl (deq_refl _)
theorem okAll_hd {p p2 : D} {s s2 : Sto} (h : free p2 = true) (k : okAll s s2 = true) : okAll (p :: s) (p2 :: s2) = true := by
  simp only [okAll, h, Bool.or_true, k, Bool.and_self]
theorem leave_W {s w : Sto} {ds : List D} (hk : okAll s (w ++ [.lst ds]) = true) (hw : w.length = s.length) (h : bels s.length ds = true) : leave s (w ++ [.lst ds]) (.ref s.length) = .ok (.lst ds) w := by
  unfold leave
  have hf : fz (w ++ [.lst ds]) s.length 20 (.ref s.length) = some (.lst ds) := by
    unfold fz
    rw [if_neg (by simp [bel]), ← hw]
    simp only [at_last]
    rw [hw, mapO_bel h]
    rfl
  rw [hf]
  simp only [hk, if_true, ← hw, List.take_left]
theorem lv_W {s w : Sto} {ds : List D} {Q : D → Sto → Prop} {X : Xq} (hk : okAll s (w ++ [.lst ds]) = true) (hw : w.length = s.length) (h : bels s.length ds = true) : @lv s (w ++ [.lst ds]) (.ref s.length) Q X = Q (.lst ds) w := by
  unfold lv
  rw [leave_W hk hw h]
  rfl
/-- a value leaves; elder objects may be written -/
theorem lv_V {s w u : Sto} {d : D} {Q : D → Sto → Prop} {X : Xq} (hk : okAll s (w ++ u) = true) (hw : w.length = s.length) (h : bel s.length d = true) : @lv s (w ++ u) d Q X = Q d w := by
  unfold lv leave fz
  rw [if_pos h]
  simp only [hk, if_true, ← hw, List.take_left]
  rfl
theorem leave_headD {p p2 : D} {r : Sto} {ks ds : List D} (hp : free p2 = true) (h : bels (r.length + 1) ds = true) : leave (p :: r) (p2 :: (r ++ [.dic ks ds])) (.ref (r.length + 1)) = .ok (.dic ks ds) (p2 :: r) := by
  unfold leave
  have hf : fz (p2 :: (r ++ [.dic ks ds])) (p :: r).length 20 (.ref (r.length + 1)) = some (.dic ks ds) := by
    unfold fz
    rw [if_neg (by simp [bel])]
    simp only [List.length_cons, List.getElem?_cons_succ, at_last]
    rw [mapO_bel h]
    rfl
  rw [hf]
  simp only [ok_head hp, if_true, List.length_cons, List.take_succ_cons, List.take_left]
theorem lv_headD {p p2 : D} {r : Sto} {ks ds : List D} {Q : D → Sto → Prop} {X : Xq} (hp : free p2 = true) (h : bels (r.length + 1) ds = true) : @lv (p :: r) (p2 :: (r ++ [.dic ks ds])) (.ref (r.length + 1)) Q X = Q (.dic ks ds) (p2 :: r) := by
  unfold lv
  rw [leave_headD hp h]
  rfl
theorem lv_newD {s : Sto} {ks ds : List D} {Q : D → Sto → Prop} {X : Xq} (h : bels s.length ds = true) : @lv s (s ++ [.dic ks ds]) (.ref s.length) Q X = Q (.dic ks ds) s := by
  have hf : fz (s ++ [.dic ks ds]) s.length 20 (.ref s.length) = some (.dic ks ds) := by
    unfold fz
    rw [if_neg (by simp [bel])]
    simp only [at_last]
    rw [mapO_bel h]
    rfl
  unfold lv leave
  rw [hf]
  simp only [okAll_app, if_true, List.take_left]
  rfl
/-- a display that is kept -/
theorem dspK_t {ks : List L2.Key} {s : Sto} {ds : List D} {Q : D → Sto → Prop} (h1 : ks.length = ds.length) (h2 : distD (ks.map kd) = true) (h : Q (.ref s.length) (s ++ [.dic (ks.map kd) ds])) : @dspK true ks s ds (s ++ [.dic [] []]) Q := by
  refine ⟨at_last, ⟨h1, h2⟩, ?_⟩
  rw [if_pos rfl, set_last]
  exact h
/-- a display that is data -/
theorem dspK_f {ks : List L2.Key} {s : Sto} {ds : List D} {Q : D → Sto → Prop} (h1 : ks.length = ds.length) (h2 : distD (ks.map kd) = true) (hb : bels s.length ds = true) (h : Q (.dic (ks.map kd) ds) s) : @dspK false ks s ds (s ++ [.dic [] []]) Q := by
  refine ⟨at_last, ⟨h1, h2⟩, ?_⟩
  rw [if_neg (by decide), set_last]
  have := lv_newD (s := s) (ks := ks.map kd) (ds := ds) (Q := Q) (X := noX) hb
  unfold lv at this
  rw [this]
  exact h
/-! equal data -/
mutual
theorem pd_self : ∀ (d : D) (p : PyData), pd d = some p → PyData.eqv p p = true
  | .non, p, h => by simp only [pd, Option.some.injEq] at h; subst h; rfl
  | .bl b, p, h => by simp only [pd, Option.some.injEq] at h; subst h; simp [PyData.eqv]
  | .int i, p, h => by simp only [pd, Option.some.injEq] at h; subst h; simp [PyData.eqv]
  | .str x, p, h => by simp only [pd, Option.some.injEq] at h; subst h; simp [PyData.eqv]
  | .tup ds, p, h => by
    simp only [pd, Option.map_eq_some_iff] at h
    obtain ⟨ps, h, rfl⟩ := h
    simp only [PyData.eqv]
    exact pds_self ds ps h
  | .lst ds, p, h => by
    simp only [pd, Option.map_eq_some_iff] at h
    obtain ⟨ps, h, rfl⟩ := h
    simp only [PyData.eqv]
    exact pds_self ds ps h
  | .klst _, p, h => by simp [pd] at h
  | .dic _ _, p, h => by simp [pd] at h
  | .set _, p, h => by simp [pd] at h
  | .ins _ _ _, p, h => by simp [pd] at h
  | .ref _, p, h => by simp [pd] at h
  | .cls _, p, h => by simp [pd] at h
  | .ty _, p, h => by simp [pd] at h
theorem pds_self : ∀ (ds : List D) (ps : List PyData), pds ds = some ps → PyData.eqvAll ps ps = true
  | [], ps, h => by simp only [pds, Option.some.injEq] at h; subst h; rfl
  | d :: ds, ps, h => by
    simp only [pds, Option.bind_eq_some_iff, Option.map_eq_some_iff] at h
    obtain ⟨p, h1, qs, h2, rfl⟩ := h
    simp only [PyData.eqvAll, pd_self d p h1, pds_self ds qs h2, Bool.and_self]
end
section
variable {s : Sto} {Q : D → Sto → Prop} {d e : D} {n : Nat}
theorem o_eq_same (h1 : okd n (look s d)) (h2 : look s e = look s d) (hn : n ≤ 64) : @wpo (ap2 .eq s d e) Q = Q (.bl true) s :=
  o_eqP h1 (h2 ▸ h1) hn fun p q h k => by
    rw [h2, h] at k
    cases k
    exact pd_self _ p h
theorem o_ne_same (h1 : okd n (look s d)) (h2 : look s e = look s d) (hn : n ≤ 64) : @wpo (ap2 .ne s d e) Q = Q (.bl false) s :=
  o_neP (r := true) h1 (h2 ▸ h1) hn fun p q h k => by
    rw [h2, h] at k
    cases k
    exact pd_self _ p h
theorem o_rp2 {x : D} : @wpo (apRp false s (.lst [x]) (.int 2)) Q = Q (.lst [x, x]) s := rfl
end
end Ir
end
section
set_option Elab.async false
set_option linter.all false
set_option maxRecDepth 100000
namespace Ir
open PySem
/-- a comprehension over what the store holds -/
theorem lc_inv2 {G : Gt} {M : Gm} {α : Type} {b : Itb} {m : Bool} {t : Tg} {own : List Nat} {q e : E} {env : Ev} {Q : D → Sto → Prop} {X : Xq} (f : α → D) (l : List α) (n : Nat) (hl : l.length ≤ sizeLine) (I : List α → List α → List D → Sto → Prop)
    (hI : ∀ done rest acc s, I done rest acc s → s.length = n) (hb : ∀ done rest acc s, I done rest acc s → b.items (s ++ [.lst acc]) = some (l.map f))
    (step : ∀ done a rest acc s, done ++ a :: rest = l → acc.length ≤ done.length → I done (a :: rest) acc s → @putK t (wipeE env own) (f a) fun env1 => wt G M q env1 (s ++ [.lst acc]) (fun c s1 => @br c (wx G M e env1 s1 (fun d s2 => ∃ s3, s2 = s3 ++ [.lst acc] ∧ I (done ++ [a]) rest (acc ++ [d]) s3) noX) (∃ s3, s1 = s3 ++ [.lst acc] ∧ I (done ++ [a]) rest acc s3)) noX)
    (s : Sto) (hb0 : b.items s = some (l.map f)) (fin : ∀ acc s3, I l [] acc s3 → if m = true then Q (.ref n) (s3 ++ [.lst acc]) else @lv s (s3 ++ [.lst acc]) (.ref n) Q X) (h0 : I [] l [] s) : @lc G M m b t own q e env s Q X := by
  have key : ∀ (rest done : List α) (acc : List D) (s1 : Sto), done ++ rest = l → acc.length ≤ done.length → I done rest acc s1 → ∃ acc2 s2, loopC (guard b (l.map f)) t (evp G M q).2 (evp G M e).1 (wipeE env own) n (rest.map f) (s1 ++ [.lst acc]) = some (s2 ++ [.lst acc2]) ∧ I l [] acc2 s2 := by
    intro rest
    induction rest with
    | nil =>
      intro done acc s1 e1 _ h
      rw [List.append_nil] at e1
      subst e1
      unfold loopC
      simp only [List.map_nil, guard_at (hb _ _ _ _ h), if_true]
      exact ⟨acc, s1, rfl, h⟩
    | cons a rest ih =>
      intro done acc s1 e1 hacc h
      have z := step done a rest acc s1 e1 hacc h
      unfold putK at z
      have e2 : (done ++ [a]) ++ rest = l := by rw [List.append_assoc]; exact e1
      have hg := guard_at (hb _ _ _ _ h)
      simp only [List.map_cons, loopC, hg, if_true]
      cases hp : t.put (wipeE env own) (f a) with
      | none => rw [hp] at z; exact z.elim
      | some env1 =>
        rw [hp] at z
        have z : wt G M q env1 (s1 ++ [.lst acc]) _ noX := z
        unfold wt at z
        simp only
        cases hq : (evp G M q).2 env1 (s1 ++ [.lst acc]) with
        | bad => rw [hq] at z; exact z.elim
        | ex k ds s2 => rw [hq] at z; exact z.elim
        | ok c s2 =>
          rw [hq] at z
          cases c with
          | false =>
            replace z := br_f z
            obtain ⟨s3, rfl, h3⟩ := z
            exact ih (done ++ [a]) acc s3 e2 (by simp; omega) h3
          | true =>
            replace z := br_t z
            unfold wx at z
            simp only
            cases hx : (evp G M e).1 env1 s2 with
            | bad => rw [hx] at z; exact z.elim
            | ex k ds s2 => rw [hx] at z; exact z.elim
            | ok d s4 =>
              rw [hx] at z
              obtain ⟨s3, rfl, h3⟩ := z
              have hn := hI _ _ _ _ h3
              simp only
              rw [← hn, at_last]
              have hlen : acc.length < sizeLine := by
                have : (done ++ a :: rest).length = l.length := by rw [e1]
                rw [List.length_append, List.length_cons] at this
                omega
              simp only [hlen, if_true, set_last]
              rw [hn]
              exact ih (done ++ [a]) (acc ++ [d]) s3 e2 (by simp; omega) h3
  have hn := hI _ _ _ _ h0
  unfold lc
  rw [hb0, hn]
  obtain ⟨acc2, s2, e2, h2⟩ := key l [] [] s rfl (Nat.le_refl _) h0
  simp only [e2]
  have := fin acc2 s2 h2
  split
  · rename_i hm
    rw [if_pos hm] at this
    exact this
  · rename_i hm
    rw [if_neg hm] at this
    exact this
theorem ix_3 {d e f g : D} {ds : List D} : L2.atI (d :: e :: f :: g :: ds) 3 = some g := by
  simp [L2.atI, L2.ixN]
  rw [if_pos (by omega)]; rfl
theorem ix_4 {d e f g h : D} {ds : List D} : L2.atI (d :: e :: f :: g :: h :: ds) 4 = some h := by
  simp [L2.atI, L2.ixN]
  rw [if_pos (by omega)]; rfl
theorem putK_four {i j n m : Nat} {env : Ev} {d e f g : D} {k : Ev → Prop} : @putK (.many [i, j, n, m]) env (.tup [d, e, f, g]) k = k ((((env.set i (some d)).set j (some e)).set n (some f)).set m (some g)) := rfl
theorem numb_map {α : Type} (f : α → D) : ∀ (l : List α) (k : Nat), numb k (l.map f) = (l.zipIdx k).map fun p => .tup [.int (p.2 : Int), f p.1]
  | [], _ => rfl
  | a :: l, k => by
    simp only [List.map_cons, numb, List.zipIdx_cons, numb_map f l (k + 1)]
theorem zip_at {α : Type} {l : List α} {done rest : List (α × Nat)} {a : α × Nat} (h : done ++ a :: rest = l.zipIdx) : a.2 = done.length ∧ l[done.length]? = some a.1 := by
  have h1 : l.zipIdx[done.length]? = some a := by rw [← h]; simp
  rw [List.getElem?_zipIdx] at h1
  obtain ⟨x, hx, rfl⟩ := Option.map_eq_some_iff.mp h1
  exact ⟨by simp, hx⟩
theorem atI_nat {α : Type} {l : List α} {i : Nat} {x : α} (h : l[i]? = some x) : L2.atI l (i : Int) = some x := by
  have hlt := (List.getElem?_eq_some_iff.mp h).1
  unfold L2.atI L2.ixN
  rw [if_pos (by omega), if_pos (by omega)]
  show l[(i : Int).toNat]? = _
  rw [Int.toNat_natCast, h]
end Ir
end
section
set_option Elab.async false
set_option linter.all false
set_option maxRecDepth 100000
namespace Ir
open PySem
/-! ### what repr shows: its length, and that its signs are signs -/
theorem sok_app {a b : Str} (ha : PyData.strOk a = true) (hb : PyData.strOk b = true) : PyData.strOk (a ++ b) = true := by
  unfold PyData.strOk at *
  show (a.cps ++ b.cps).all _ = true
  rw [Array.all_append, ha, hb]
  rfl
theorem sok_from : ∀ (ts : List Str) (k : Nat) (acc : Str), PyData.strOk acc = true → (∀ t ∈ ts, PyData.strOk t = true) → PyData.strOk (textFrom k acc ts) = true
  | [], k, acc, h, _ => h
  | t :: ts, k, acc, h, hs => by
    unfold textFrom
    refine sok_from ts _ _ (sok_app (sok_app h ?_) (hs t (by simp))) fun x hx => hs x (by simp [hx])
    split <;> decide +kernel
theorem from_ub {B : Nat} : ∀ (ts : List Str) (k : Nat) (acc : Str), (∀ t ∈ ts, t.length ≤ B) → (textFrom k acc ts).length ≤ acc.length + ts.length * (B + 2)
  | [], k, acc, _ => by simp [textFrom]
  | t :: ts, k, acc, hs => by
    have ih := from_ub ts (k + 1) (acc ++ (if k > 0 then ", " else "" : String) ++ t) fun x hx => hs x (by simp [hx])
    have ht := hs t (by simp)
    have e : (acc ++ (if k > 0 then ", " else "" : String) ++ t).length ≤ acc.length + 2 + t.length := by
      rw [strLen_append, strLen_append]
      split
      · exact Nat.le_refl _
      · show acc.length + 0 + t.length ≤ _
        omega
    unfold textFrom
    rw [List.length_cons, Nat.add_mul]
    omega
theorem sok_list {ts : List Str} (h : ∀ t ∈ ts, PyData.strOk t = true) : PyData.strOk (listText ts) = true := sok_app (sok_from ts 0 _ (by decide +kernel) h) (by decide +kernel)
theorem list_ub {B : Nat} {ts : List Str} (h : ∀ t ∈ ts, t.length ≤ B) : (listText ts).length ≤ ts.length * (B + 2) + 2 := by
  have := from_ub ts 0 "[" h
  have e : (("[" : String) : Str).length = 1 := rfl
  have e2 : (("]" : String) : Str).length = 1 := rfl
  unfold listText
  rw [strLen_append]
  omega
/-! lists of truths -/
def pb3 : Option Bool → PyData
  | none => .none
  | some b => .bool b
def db3 : Option Bool → D
  | none => .non
  | some b => .bl b
theorem pd_db3 (o : Option Bool) : pd (db3 o) = some (pb3 o) := by cases o <;> rfl
theorem pds_db3 : ∀ os : List (Option Bool), pds (os.map db3) = some (os.map pb3)
  | [] => rfl
  | o :: os => by simp only [List.map_cons, pds, pd_db3, pds_db3 os, Option.bind_some, Option.map_some]
def shB (os : List (Option Bool)) : Str := (PyData.list (os.map pb3)).shown
theorem shAll_map {α : Type} (f : α → PyData) : ∀ l : List α, PyData.shownAll (l.map f) = l.map fun a => (f a).shown
  | [] => rfl
  | a :: l => by simp only [List.map_cons, PyData.shownAll, shAll_map f l]
theorem shB_ok (os : List (Option Bool)) : PyData.strOk (shB os) = true := by
  unfold shB
  simp only [PyData.shown]
  rw [shAll_map]
  refine sok_list fun t ht => ?_
  obtain ⟨o, _, rfl⟩ := List.mem_map.mp ht
  cases o with
  | none => decide +kernel
  | some b => cases b <;> decide +kernel
theorem shB_len (os : List (Option Bool)) : (shB os).length ≤ os.length * 7 + 2 := by
  unfold shB
  simp only [PyData.shown]
  rw [shAll_map]
  refine Nat.le_trans (list_ub (B := 5) fun t ht => ?_) (by rw [List.length_map]; exact Nat.le_refl _)
  obtain ⟨o, _, rfl⟩ := List.mem_map.mp ht
  cases o with
  | none => decide +kernel
  | some b => cases b <;> decide +kernel
theorem pb3_show (os : List (Option Bool)) : PyData.showableAll (os.map pb3) = true := by
  induction os with
  | nil => rfl
  | cons o os ih => cases o <;> simp only [List.map_cons, pb3, PyData.showableAll, PyData.showable, ih, Bool.and_self]
theorem pb3_dict (os : List (Option Bool)) : PyData.hasDictAll (os.map pb3) = false := by
  induction os with
  | nil => rfl
  | cons o os ih => cases o <;> simp only [List.map_cons, pb3, PyData.hasDictAll, PyData.hasDict, ih, Bool.or_self]
theorem pb3_depth (os : List (Option Bool)) : PyData.depthAll (os.map pb3) ≤ 1 := by
  induction os with
  | nil => simp only [List.map_nil, PyData.depthAll]; omega
  | cons o os ih => cases o <;> simp only [List.map_cons, pb3, PyData.depthAll, PyData.depth] <;> omega
theorem shB_rpr {s : Sto} {Q : D → Sto → Prop} {d : D} {os : List (Option Bool)} (h : look s d = .lst (os.map db3)) (hl : os.length ≤ 100000) : @wpo (apRepr s d) Q = Q (.str (shB os)) s := by
  refine o_rpr (p := .list (os.map pb3)) ?_ ?_ ?_ ?_ ?_
  · rw [h]
    simp only [pd, pds_db3, Option.map_some]
  · simp only [PyData.showable]; exact pb3_show os
  · simp only [PyData.hasDict]; exact pb3_dict os
  · have := pb3_depth os
    simp only [PyData.depth]
    omega
  · have := shB_len os
    unfold sizeLine
    exact Nat.le_trans this (by omega)
end Ir
end
section
set_option Elab.async false
set_option linter.all false
set_option maxRecDepth 100000
set_option maxHeartbeats 0
namespace Lw
open PySem PySem.Spec PyProof.Rows L2 Ir
def top (i : Nat) : Stmt := PySem.Challenge.pw_speaklast_k10_rows_of_tables.main.body.getD i (.Pass ⟨0, 0, 0, 0⟩)
abbrev kc_FeedError : Nat := 0
abbrev kc_InvalidTable : Nat := 1
abbrev kc_Table : Nat := 2
abbrev i_law : Nat := 0
abbrev i_Table_cut : Nat := 1
abbrev i__law_some : Nat := 2
abbrev i__law_wrong : Nat := 3
abbrev i_Table_is_row : Nat := 4
abbrev i_Table_key_of : Nat := 5
abbrev i__law_value : Nat := 6
abbrev i_Table_of : Nat := 7
abbrev i__law_draw : Nat := 8
abbrev i__law_pen : Nat := 9
abbrev i_is_value : Nat := 10
abbrev i_Table___init__ : Nat := 11
abbrev i_is_number : Nat := 12
abbrev i_are_among : Nat := 13
abbrev i_are_distinct : Nat := 14
abbrev i_is_name : Nat := 15
abbrev i_is_integer : Nat := 16
/-- law -/
def b_law : Stms := .cons (.set 1 (.x (.call i__law_pen) (.cons (.var 0) .nil))) (.cons (.for_ (.one 2) (.rng (.cons (.con (.int 4)) .nil)) (.cons (.set 3 (.x (.lst true) (.cons (.con (.str "k")) (.cons (.con (.str "r")) (.cons (.con (.str "u")) (.cons (.con (.str "key")) (.cons (.con (.str "in")) (.cons (.con (.str "a")) (.cons (.con (.str "b")) (.cons (.con (.str "once")) .nil)))))))))) (.cons (.set 4 (.comp false (.rng (.cons (.x (.bin (.add false)) (.cons (.con (.int 1)) (.cons (.x (.call i__law_draw) (.cons (.var 1) (.cons (.con (.int 4)) .nil))) .nil))) .nil)) (.one 14) [("k", 14)] .yes (.x (.meth "list" .popAt) (.cons (.var 3) (.cons (.x (.call i__law_draw) (.cons (.var 1) (.cons (.x (.bt .len) (.cons (.var 3) .nil)) .nil))) .nil))))) (.cons (.set 5 (.x (.call i__law_some) (.cons (.var 1) (.cons (.var 4) (.cons (.con (.int 2)) .nil))))) (.cons (.set 6 (.x (.kcall (.cmt kc_Table "of" i_Table_of) [false] ["key"]) (.cons (.glb (.cls kc_Table)) (.cons (.var 4) (.cons (.var 5) .nil))))) (.cons (.for_ (.one 7) (.rng (.cons (.con (.int 4)) .nil)) (.cons (.set 8 (.x (.bt .tuple) (.cons (.comp false (.seq (.var 4)) (.one 15) [("column", 15)] .yes (.x (.call i__law_value) (.cons (.var 1) (.cons (.x (.cmp .in_) (.cons (.var 15) (.cons (.var 5) .nil))) .nil)))) .nil))) (.cons (.set 9 (.x (.bt .tuple) (.cons (.comp false (.zip (.cons (.var 4) (.cons (.var 8) .nil))) (.many [15, 16]) [("column", 15), ("value", 16)] (.x (.cmp .in_) (.cons (.var 15) (.cons (.var 5) .nil))) (.var 16)) .nil))) (.cons (.if_ (.or_ (.x (.cmp .notb) (.cons (.x (.own kc_Table "is_row" i_Table_is_row) (.cons (.var 6) (.cons (.var 8) .nil))) (.cons (.con (.bl true)) .nil))) (.x (.cmp .ne) (.cons (.x (.own kc_Table "key_of" i_Table_key_of) (.cons (.var 6) (.cons (.var 8) .nil))) (.cons (.var 9) .nil)))) (.cons (.ret (.con (.bl false))) .nil) .nil) (.cons (.set 10 (.x .ix (.cons (.comp false (.enum (.cons (.var 4) .nil)) (.many [17, 15]) [("place", 17), ("column", 15)] (.x (.cmp .in_) (.cons (.var 15) (.cons (.var 5) .nil))) (.var 17)) (.cons (.x .neg (.cons (.con (.int 1)) .nil)) .nil)))) (.cons (.for_ (.one 11) (.seq (.x (.call i__law_wrong) (.cons (.var 1) (.cons (.var 8) (.cons (.var 10) .nil))))) (.cons (.if_ (.x (.cmp .notb) (.cons (.x (.own kc_Table "is_row" i_Table_is_row) (.cons (.var 6) (.cons (.var 11) .nil))) (.cons (.con (.bl false)) .nil))) (.cons (.ret (.con (.bl false))) .nil) .nil) .nil)) (.cons (.set 12 (.x (.call i__law_some) (.cons (.var 1) (.cons (.var 4) (.cons (.con (.int 4)) .nil))))) (.cons (.set 13 (.x (.own kc_Table "cut" i_Table_cut) (.cons (.var 6) (.cons (.var 8) (.cons (.var 12) .nil))))) (.cons (.if_ (.or_ (.x (.cmp .ne) (.cons (.var 13) (.cons (.x (.bt .tuple) (.cons (.comp false (.seq (.var 12)) (.one 15) [("column", 15)] .yes (.x .ix (.cons (.var 8) (.cons (.x (.bmx .lindex) (.cons (.var 4) (.cons (.var 15) .nil))) .nil)))) .nil)) .nil))) (.not_ (.x (.bt .isi) (.cons (.var 13) (.cons (.bty "tuple") .nil))))) (.cons (.ret (.con (.bl false))) .nil) .nil) (.cons (.if_ (.or_ (.x (.cmp .ne) (.cons (.x (.own kc_Table "cut" i_Table_cut) (.cons (.var 6) (.cons (.var 8) (.cons (.x (.fld "columns") (.cons (.var 6) .nil)) .nil)))) (.cons (.var 8) .nil))) (.or_ (.x (.cmp .ne) (.cons (.x (.own kc_Table "cut" i_Table_cut) (.cons (.var 6) (.cons (.var 8) (.cons (.x .tup .nil) .nil)))) (.cons (.x .tup .nil) .nil))) (.x (.cmp .ne) (.cons (.x (.own kc_Table "cut" i_Table_cut) (.cons (.var 6) (.cons (.var 8) (.cons (.x (.fld "key") (.cons (.var 6) .nil)) .nil)))) (.cons (.var 9) .nil))))) (.cons (.ret (.con (.bl false))) .nil) .nil) .nil)))))))))) .nil)))))) (.cons (.ret (.con (.bl true))) .nil))
abbrev f_law : Fd := ⟨1, 18, false, b_law⟩
def d_law : Sd := ⟨.g "law", "law", "law", top 22, ["script"], ["script", "pen", "turn", "left", "columns", "keyed", "table", "step", "row", "due", "at", "odd", "wanted", "told", "k", "column", "value", "place"], .plain, f_law, []⟩
/-- Table.cut -/
def b_Table_cut : Stms := .cons (.set 3 (.x (.dzp false) (.cons (.x (.fld "columns") (.cons (.var 0) .nil)) (.cons (.var 1) .nil)))) (.cons (.ret (.x (.bt .tuple) (.cons (.comp false (.seq (.var 2)) (.one 4) [("column", 4)] .yes (.x .dx (.cons (.var 3) (.cons (.var 4) .nil)))) .nil))) .nil)
abbrev f_Table_cut : Fd := ⟨3, 5, false, b_Table_cut⟩
def d_Table_cut : Sd := ⟨.m "Table" "cut", "cut", "Table.cut", inClass (top 15) 4, ["self", "row", "columns"], ["self", "row", "columns", "values", "column"], .plain, f_Table_cut, []⟩
/-- _law_some -/
def b__law_some : Stms := .cons (.set 3 (.x (.bt (.list true)) (.cons (.var 1) .nil))) (.cons (.set 4 (.x (.lst true) .nil)) (.cons (.for_ (.one 5) (.rng (.cons (.x (.bin (.add false)) (.cons (.con (.int 1)) (.cons (.x (.call i__law_draw) (.cons (.var 0) (.cons (.var 2) .nil))) .nil))) .nil)) (.cons (.if_ (.x (.cmp .ne) (.cons (.var 3) (.cons (.x (.lst false) .nil) .nil))) (.cons (.expr (.x (.meth "list" .append) (.cons (.var 4) (.cons (.x (.meth "list" .popAt) (.cons (.var 3) (.cons (.x (.call i__law_draw) (.cons (.var 0) (.cons (.x (.bt .len) (.cons (.var 3) .nil)) .nil))) .nil))) .nil)))) .nil) .nil) .nil)) (.cons (.ret (.x (.bt .tuple) (.cons (.var 4) .nil))) .nil)))
abbrev f__law_some : Fd := ⟨3, 6, false, b__law_some⟩
def d__law_some : Sd := ⟨.g "_law_some", "_law_some", "_law_some", top 19, ["pen", "names", "most"], ["pen", "names", "most", "left", "found", "turn"], .plain, f__law_some, []⟩
/-- _law_wrong -/
def b__law_wrong : Stms := .cons (.set 3 (.x .ix (.cons (.x (.lst false) (.cons (.con (.bl true)) (.cons (.con (.bl false)) (.cons (.con (.str "0")) (.cons (.con (.str "")) (.cons (.x .tup .nil) (.cons (.x .tup (.cons (.con (.int 0)) .nil)) (.cons (.x (.lst false) .nil) (.cons (.x (.dct []) .nil) .nil))))))))) (.cons (.x (.call i__law_draw) (.cons (.var 0) (.cons (.con (.int 8)) .nil))) .nil)))) (.cons (.set 4 (.x (.call i__law_draw) (.cons (.var 0) (.cons (.x (.bt .len) (.cons (.var 1) .nil)) .nil)))) (.cons (.set 5 (.x (.lst false) (.cons (.x (.bt (.list false)) (.cons (.var 1) .nil)) (.cons (.x (.slc false false true) (.cons (.var 1) (.cons (.x .neg (.cons (.con (.int 1)) .nil)) .nil))) (.cons (.x (.bin (.add false)) (.cons (.var 1) (.cons (.x .tup (.cons (.con (.int 0)) .nil)) .nil))) (.cons (.x .tup (.cons (.var 1) .nil)) (.cons (.con .non) (.cons (.con (.int 0)) (.cons (.con (.bl true)) (.cons (.con (.str "")) (.cons (.x (.dct []) .nil) (.cons (.x .tup .nil) .nil)))))))))))) (.cons (.set 5 (.x (.bin (.add false)) (.cons (.var 5) (.cons (.x (.lst false) (.cons (.x (.bin (.add false)) (.cons (.x (.bin (.add false)) (.cons (.x (.slc false false true) (.cons (.var 1) (.cons (.var 2) .nil))) (.cons (.x .tup (.cons (.con .non) .nil)) .nil))) (.cons (.x (.slc false true false) (.cons (.var 1) (.cons (.x (.bin (.add false)) (.cons (.var 2) (.cons (.con (.int 1)) .nil))) .nil))) .nil))) (.cons (.x (.bin (.add false)) (.cons (.x (.bin (.add false)) (.cons (.x (.slc false false true) (.cons (.var 1) (.cons (.var 4) .nil))) (.cons (.x .tup (.cons (.var 3) .nil)) .nil))) (.cons (.x (.slc false true false) (.cons (.var 1) (.cons (.x (.bin (.add false)) (.cons (.var 4) (.cons (.con (.int 1)) .nil))) .nil))) .nil))) (.cons (.x (.bin (.add false)) (.cons (.var 1) (.cons (.x .tup (.cons (.con .non) .nil)) .nil))) .nil)))) .nil)))) (.cons (.ret (.x (.bin (.add false)) (.cons (.var 5) (.cons (.comp false (.seq (.x .tup (.cons (.x (.bin .pow) (.cons (.con (.int 10)) (.cons (.con (.int 30)) .nil))) (.cons (.x (.bin .sub) (.cons (.con (.int 0)) (.cons (.x (.bin .pow) (.cons (.con (.int 10)) (.cons (.con (.int 30)) .nil))) .nil))) (.cons (.x (.bin .pow) (.cons (.con (.int 10)) (.cons (.con (.int 59)) .nil))) .nil))))) (.one 6) [("large", 6)] .yes (.x (.bin (.add false)) (.cons (.x (.bin (.add false)) (.cons (.x (.slc false false true) (.cons (.var 1) (.cons (.var 4) .nil))) (.cons (.x .tup (.cons (.var 6) .nil)) .nil))) (.cons (.x (.slc false true false) (.cons (.var 1) (.cons (.x (.bin (.add false)) (.cons (.var 4) (.cons (.con (.int 1)) .nil))) .nil))) .nil)))) .nil)))) .nil))))
abbrev f__law_wrong : Fd := ⟨3, 7, false, b__law_wrong⟩
def d__law_wrong : Sd := ⟨.g "_law_wrong", "_law_wrong", "_law_wrong", top 21, ["pen", "row", "at"], ["pen", "row", "at", "odd", "place", "some", "large"], .plain, f__law_wrong, []⟩
/-- Table.is_row -/
def b_Table_is_row : Stms := .cons (.if_ (.or_ (.not_ (.x (.bt .isi) (.cons (.var 1) (.cons (.bty "tuple") .nil)))) (.x (.cmp .ne) (.cons (.x (.bt .len) (.cons (.var 1) .nil)) (.cons (.x (.bt .len) (.cons (.x (.fld "columns") (.cons (.var 0) .nil)) .nil)) .nil)))) (.cons (.ret (.con (.bl false))) .nil) .nil) (.cons (.ret (.and_ (.x (.bt .all) (.cons (.comp false (.seq (.var 1)) (.one 2) [("value", 2)] .yes (.x (.call i_is_value) (.cons (.var 2) .nil))) .nil)) (.x (.cmp .notin) (.cons (.con .non) (.cons (.x (.own kc_Table "key_of" i_Table_key_of) (.cons (.var 0) (.cons (.var 1) .nil))) .nil))))) .nil)
abbrev f_Table_is_row : Fd := ⟨2, 3, false, b_Table_is_row⟩
def d_Table_is_row : Sd := ⟨.m "Table" "is_row", "is_row", "Table.is_row", inClass (top 15) 3, ["self", "thing"], ["self", "thing", "value"], .plain, f_Table_is_row, []⟩
/-- Table.key_of -/
def b_Table_key_of : Stms := .cons (.ret (.x (.own kc_Table "cut" i_Table_cut) (.cons (.var 0) (.cons (.var 1) (.cons (.x (.fld "key") (.cons (.var 0) .nil)) .nil))))) .nil
abbrev f_Table_key_of : Fd := ⟨2, 2, false, b_Table_key_of⟩
def d_Table_key_of : Sd := ⟨.m "Table" "key_of", "key_of", "Table.key_of", inClass (top 15) 5, ["self", "row"], ["self", "row"], .plain, f_Table_key_of, []⟩
/-- _law_value -/
def b__law_value : Stms := .cons (.set 2 (.x (.call i__law_draw) (.cons (.var 0) (.cons (.con (.int 6)) .nil)))) (.cons (.if_ (.x (.cmp .eq) (.cons (.var 2) (.cons (.con (.int 0)) .nil))) (.cons (.ret (.x .ix (.cons (.x (.lst false) (.cons (.x (.bin .pow) (.cons (.con (.int 10)) (.cons (.con (.int 29)) .nil))) (.cons (.x (.bin .sub) (.cons (.con (.int 0)) (.cons (.x (.bin .pow) (.cons (.con (.int 10)) (.cons (.con (.int 29)) .nil))) .nil))) (.cons (.x (.bin .sub) (.cons (.x (.bin .pow) (.cons (.con (.int 10)) (.cons (.con (.int 30)) .nil))) (.cons (.con (.int 1)) .nil))) .nil)))) (.cons (.x (.call i__law_draw) (.cons (.var 0) (.cons (.con (.int 3)) .nil))) .nil)))) .nil) .nil) (.cons (.if_ (.and_ (.x (.cmp .lt) (.cons (.var 2) (.cons (.con (.int 3)) .nil))) (.not_ (.var 1))) (.cons (.ret (.con .non)) .nil) .nil) (.cons (.ret (.x (.bin .sub) (.cons (.x (.call i__law_draw) (.cons (.var 0) (.cons (.con (.int 9)) .nil))) (.cons (.con (.int 4)) .nil)))) .nil)))
abbrev f__law_value : Fd := ⟨2, 3, false, b__law_value⟩
def d__law_value : Sd := ⟨.g "_law_value", "_law_value", "_law_value", top 20, ["pen", "is_key"], ["pen", "is_key", "pick"], .plain, f__law_value, []⟩
/-- Table.of -/
def b_Table_of : Stms := .cons (.ret (.x (.kcall (.mkv false kc_Table i_Table___init__) [true] ["key", "fixed", "unique", "reuse"]) (.cons (.var 0) (.cons (.var 1) (.cons (.var 2) (.cons (.var 3) (.cons (.var 4) (.cons (.var 5) .nil)))))))) .nil
abbrev f_Table_of : Fd := ⟨6, 6, false, b_Table_of⟩
def d_Table_of : Sd := ⟨.c "Table" "of", "of", "Table.of", inClass (top 15) 2, ["cls", "columns", "key", "fixed", "unique", "reuse"], ["cls", "columns", "key", "fixed", "unique", "reuse"], .no, f_Table_of, [⟨2, false, ["key"], [("fixed", .tup []), ("unique", .tup []), ("reuse", .bl true)], [0, 1, 2, 3, 4, 5]⟩]⟩
/-- _law_draw -/
def b__law_draw : Stms := .cons (.if_ (.x (.cmp .gt) (.cons (.x .ix (.cons (.var 0) (.cons (.con (.int 2)) .nil))) (.cons (.con (.int 0)) .nil))) (.cons (.set 2 (.x (.bin .mod) (.cons (.x (.bt .int) (.cons (.x .ix (.cons (.var 0) (.cons (.con (.int 2)) .nil))) .nil)) (.cons (.var 1) .nil)))) (.cons (.sub (.var 0) (.con (.int 2)) (.x (.bin .fdiv) (.cons (.x .ix (.cons (.var 0) (.cons (.con (.int 2)) .nil))) (.cons (.var 1) .nil)))) (.cons (.ret (.var 2)) .nil))) .nil) (.cons (.set 3 (.x .ix (.cons (.var 0) (.cons (.con (.int 1)) .nil)))) (.cons (.sub (.var 0) (.con (.int 1)) (.x (.bin (.add false)) (.cons (.var 3) (.cons (.con (.int 1)) .nil)))) (.cons (.set 4 (.x (.bin (.add false)) (.cons (.x (.bin .mul) (.cons (.con (.int 49157)) (.cons (.var 3) .nil))) (.cons (.con (.int 16)) .nil)))) (.cons (.if_ (.x (.cmp .ne) (.cons (.x .ix (.cons (.var 0) (.cons (.con (.int 0)) .nil))) (.cons (.x (.lst false) .nil) .nil))) (.cons (.set 4 (.x .ix (.cons (.x .ix (.cons (.var 0) (.cons (.con (.int 0)) .nil))) (.cons (.x (.bin .mod) (.cons (.x (.bt .int) (.cons (.var 3) .nil)) (.cons (.x (.bt .len) (.cons (.x .ix (.cons (.var 0) (.cons (.con (.int 0)) .nil))) .nil)) .nil))) .nil)))) .nil) .nil) (.cons (.if_ (.and_ (.x (.cmp .lt) (.cons (.var 3) (.cons (.x (.bt .len) (.cons (.x .ix (.cons (.var 0) (.cons (.con (.int 0)) .nil))) .nil)) .nil))) (.x (.cmp .ge) (.cons (.x (.bt .abs) (.cons (.var 4) .nil)) (.cons (.x (.bin .pow) (.cons (.con (.int 10)) (.cons (.con (.int 18)) .nil))) .nil)))) (.cons (.set 5 (.x (.bin (.add false)) (.cons (.x (.bin .mul) (.cons (.con (.int 2)) (.cons (.x (.bt .abs) (.cons (.var 4) .nil)) .nil))) (.cons (.x (.bt .int) (.cons (.x (.cmp .lt) (.cons (.var 4) (.cons (.con (.int 0)) .nil))) .nil)) .nil)))) (.cons (.sub (.var 0) (.con (.int 2)) (.x (.bin .fdiv) (.cons (.var 5) (.cons (.var 1) .nil)))) (.cons (.ret (.x (.bin .mod) (.cons (.x (.bt .int) (.cons (.var 5) .nil)) (.cons (.var 1) .nil)))) .nil))) .nil) (.cons (.set 6 (.x (.bin .mod) (.cons (.x (.bin .pow) (.cons (.x (.bt .int) (.cons (.x (.bin (.add false)) (.cons (.x (.bin (.add false)) (.cons (.x (.bin .mod) (.cons (.x (.bt .int) (.cons (.var 4) .nil)) (.cons (.con (.int 2147483549)) .nil))) (.cons (.x (.bin .mul) (.cons (.con (.int 59333)) (.cons (.var 3) .nil))) .nil))) (.cons (.con (.int 30)) .nil))) .nil)) (.cons (.con (.int 5)) .nil))) (.cons (.con (.int 2147483579)) .nil)))) (.cons (.set 6 (.x (.bin .mod) (.cons (.x (.bin .pow) (.cons (.x (.bt .int) (.cons (.x (.bin (.add false)) (.cons (.x (.bin (.add false)) (.cons (.x (.bin .mul) (.cons (.var 6) (.cons (.x (.bin (.add false)) (.cons (.x (.bin .mul) (.cons (.con (.int 2)) (.cons (.var 3) .nil))) (.cons (.con (.int 49)) .nil))) .nil))) (.cons (.x (.bin .mul) (.cons (.x (.bin .mul) (.cons (.con (.int 70001)) (.cons (.var 3) .nil))) (.cons (.var 3) .nil))) .nil))) (.cons (.con (.int 13)) .nil))) .nil)) (.cons (.con (.int 3)) .nil))) (.cons (.con (.int 2147483629)) .nil)))) (.cons (.ret (.x (.bin .mod) (.cons (.x (.bt .int) (.cons (.x (.bin .fdiv) (.cons (.var 6) (.cons (.con (.int 16)) .nil))) .nil)) (.cons (.var 1) .nil)))) .nil))))))))
abbrev f__law_draw : Fd := ⟨2, 7, false, b__law_draw⟩
def d__law_draw : Sd := ⟨.g "_law_draw", "_law_draw", "_law_draw", top 18, ["pen", "many"], ["pen", "many", "digit", "at", "cell", "large", "mixed"], .plain, f__law_draw, []⟩
/-- _law_pen -/
def b__law_pen : Stms := .cons (.ret (.x (.lst true) (.cons (.x (.bt (.list false)) (.cons (.x (.slc false false true) (.cons (.var 0) (.cons (.con (.int 63)) .nil))) .nil)) (.cons (.con (.int 0)) (.cons (.con (.int 0)) .nil))))) .nil
abbrev f__law_pen : Fd := ⟨1, 1, true, b__law_pen⟩
def d__law_pen : Sd := ⟨.g "_law_pen", "_law_pen", "_law_pen", top 17, ["script"], ["script"], .plain, f__law_pen, []⟩
/-- is_value -/
def b_is_value : Stms := .cons (.ret (.or_ (.x (.cmp .isn) (.cons (.var 0) (.cons (.con .non) .nil))) (.x (.call i_is_number) (.cons (.var 0) .nil)))) .nil
abbrev f_is_value : Fd := ⟨1, 1, false, b_is_value⟩
def d_is_value : Sd := ⟨.g "is_value", "is_value", "is_value", top 14, ["thing"], ["thing"], .plain, f_is_value, []⟩
/-- Table.__init__ -/
def b_Table___init__ : Stms := .cons (.set 6 (.chain .le .le (.con (.int 1)) (.x (.bt .len) (.cons (.var 5) .nil)) (.x (.cval kc_Table "MOST_COLUMNS" (.int 4)) (.cons (.glb (.cls kc_Table)) .nil)))) (.cons (.if_ (.or_ (.not_ (.var 6)) (.or_ (.not_ (.x (.bt .all) (.cons (.comp false (.seq (.var 5)) (.one 8) [("column", 8)] .yes (.x (.call i_is_name) (.cons (.var 8) .nil))) .nil))) (.not_ (.x (.call i_are_distinct) (.cons (.var 5) .nil))))) (.cons .no .nil) .nil) (.cons (.if_ (.or_ (.not_ (.chain .le .le (.con (.int 1)) (.x (.bt .len) (.cons (.var 1) .nil)) (.con (.int 2)))) (.not_ (.x (.call i_are_among) (.cons (.var 1) (.cons (.var 5) .nil))))) (.cons .no .nil) .nil) (.cons (.set 7 (.comp false (.seq (.var 5)) (.one 8) [("column", 8)] (.x (.cmp .notin) (.cons (.var 8) (.cons (.var 1) .nil))) (.var 8))) (.cons (.if_ (.not_ (.x (.call i_are_among) (.cons (.var 2) (.cons (.var 7) .nil)))) (.cons .no .nil) .nil) (.cons (.if_ (.not_ (.x (.call i_are_among) (.cons (.var 3) (.cons (.var 7) .nil)))) (.cons .no .nil) .nil) (.cons (.fld "columns" (.var 0) (.x (.bt .tuple) (.cons (.var 5) .nil))) (.cons (.fld "key" (.var 0) (.x (.bt .tuple) (.cons (.comp false (.seq (.var 5)) (.one 8) [("column", 8)] (.x (.cmp .in_) (.cons (.var 8) (.cons (.var 1) .nil))) (.var 8)) .nil))) (.cons (.fld "fixed" (.var 0) (.x (.bt .tuple) (.cons (.comp false (.seq (.var 5)) (.one 8) [("column", 8)] (.x (.cmp .in_) (.cons (.var 8) (.cons (.var 2) .nil))) (.var 8)) .nil))) (.cons (.fld "unique" (.var 0) (.x (.bt .tuple) (.cons (.comp false (.seq (.var 5)) (.one 8) [("column", 8)] (.x (.cmp .in_) (.cons (.var 8) (.cons (.var 3) .nil))) (.var 8)) .nil))) (.cons (.fld "reuse" (.var 0) (.var 4)) .nil))))))))))
abbrev f_Table___init__ : Fd := ⟨6, 9, false, b_Table___init__⟩
def d_Table___init__ : Sd := ⟨.m "Table" "__init__", "__init__", "Table.__init__", inClass (top 15) 1, ["self", "key", "fixed", "unique", "reuse", "columns"], ["self", "key", "fixed", "unique", "reuse", "columns", "is_short", "others", "column"], .no, f_Table___init__, [⟨1, true, ["key", "fixed", "unique", "reuse"], [], [0, 1, 2, 3, 4]⟩]⟩
/-- is_number -/
def b_is_number : Stms := .cons (.ret (.and_ (.x (.call i_is_integer) (.cons (.var 0) .nil)) (.x (.cmp .lt) (.cons (.x (.bt .abs) (.cons (.var 0) .nil)) (.cons (.glb (.int 1000000000000000000000000000000)) .nil))))) .nil
abbrev f_is_number : Fd := ⟨1, 1, false, b_is_number⟩
def d_is_number : Sd := ⟨.g "is_number", "is_number", "is_number", top 13, ["thing"], ["thing"], .plain, f_is_number, []⟩
/-- are_among -/
def b_are_among : Stms := .cons (.ret (.and_ (.x (.call i_are_distinct) (.cons (.var 0) .nil)) (.x (.bt .all) (.cons (.comp false (.seq (.var 0)) (.one 2) [("name", 2)] .yes (.x (.cmp .in_) (.cons (.var 2) (.cons (.var 1) .nil)))) .nil)))) .nil
abbrev f_are_among : Fd := ⟨2, 3, false, b_are_among⟩
def d_are_among : Sd := ⟨.g "are_among", "are_among", "are_among", top 12, ["names", "columns"], ["names", "columns", "name"], .plain, f_are_among, []⟩
/-- are_distinct -/
def b_are_distinct : Stms := .cons (.ret (.x (.cmp .eq) (.cons (.x .lset (.cons (.var 0) .nil)) (.cons (.x (.bt .len) (.cons (.var 0) .nil)) .nil)))) .nil
abbrev f_are_distinct : Fd := ⟨1, 1, false, b_are_distinct⟩
def d_are_distinct : Sd := ⟨.g "are_distinct", "are_distinct", "are_distinct", top 11, ["names"], ["names"], .plain, f_are_distinct, []⟩
/-- is_name -/
def b_is_name : Stms := .cons (.ret (.and_ (.x (.bt .isi) (.cons (.var 0) (.cons (.bty "str") .nil))) (.and_ (.chain .le .le (.con (.int 1)) (.x (.bt .len) (.cons (.var 0) .nil)) (.glb (.int 8))) (.x (.bt .all) (.cons (.comp false (.seq (.var 0)) (.one 1) [("sign", 1)] .yes (.x (.cmp .in_) (.cons (.var 1) (.cons (.glb (.str "abcdefghijklmnopqrstuvwxyz")) .nil)))) .nil))))) .nil
abbrev f_is_name : Fd := ⟨1, 2, false, b_is_name⟩
def d_is_name : Sd := ⟨.g "is_name", "is_name", "is_name", top 6, ["value"], ["value", "sign"], .plain, f_is_name, []⟩
/-- is_integer -/
def b_is_integer : Stms := .cons (.ret (.and_ (.x (.bt .isi) (.cons (.var 0) (.cons (.bty "int") .nil))) (.not_ (.x (.bt .isi) (.cons (.var 0) (.cons (.bty "bool") .nil)))))) .nil
abbrev f_is_integer : Fd := ⟨1, 1, false, b_is_integer⟩
def d_is_integer : Sd := ⟨.g "is_integer", "is_integer", "is_integer", top 8, ["value"], ["value"], .plain, f_is_integer, []⟩
def L : Ls where
  defs := [d_law, d_Table_cut, d__law_some, d__law_wrong, d_Table_is_row, d_Table_key_of, d__law_value, d_Table_of, d__law_draw, d__law_pen, d_is_value, d_Table___init__, d_is_number, d_are_among, d_are_distinct, d_is_name, d_is_integer]
  cls := ["FeedError", "InvalidTable", "Table"]
  gl := [("law", .fn i_law), ("_law_some", .fn i__law_some), ("_law_wrong", .fn i__law_wrong), ("_law_value", .fn i__law_value), ("Table", .val (.cls kc_Table)), ("_law_draw", .fn i__law_draw), ("_law_pen", .fn i__law_pen), ("is_value", .fn i_is_value), ("is_number", .fn i_is_number), ("are_among", .fn i_are_among), ("are_distinct", .fn i_are_distinct), ("is_name", .fn i_is_name), ("TOO_LONG", .val (.int 1000000000000000000000000000000)), ("is_integer", .fn i_is_integer), ("LETTERS", .val (.str "abcdefghijklmnopqrstuvwxyz")), ("LONGEST", .val (.int 8))]
  bl := ["abs", "all", "bool", "dict", "enumerate", "int", "isinstance", "len", "list", "range", "set", "str", "tuple", "zip"]
  fl := [(kc_Table, "columns"), (kc_Table, "fixed"), (kc_Table, "key"), (kc_Table, "reuse"), (kc_Table, "unique")]
  cc := []
  tc := []
  ic := []
  ms := [((kc_Table, "cut"), i_Table_cut), ((kc_Table, "is_row"), i_Table_is_row), ((kc_Table, "key_of"), i_Table_key_of)]
  cs := [((kc_Table, "of"), i_Table_of)]
  cv := [((kc_Table, "MOST_COLUMNS"), .int 4)]
  mks := [(kc_Table, i_Table___init__)]
  ob := []
  ou := []
  lam := []
  dn := []
theorem o_law : SdOk L.G d_law := ⟨⟨rfl, rfl, rfl, by decide +kernel, rfl, by decide +kernel, by decide +kernel⟩, by kernel_rfl, rfl, rfl, fun _ _ _ _ _ _ us hl => match us, hl with | [_], _ => rfl, fun _ h => nomatch h⟩
theorem o_Table_cut : SdOk L.G d_Table_cut := ⟨⟨rfl, rfl, rfl, by decide +kernel, rfl, by decide +kernel, by decide +kernel⟩, by kernel_rfl, rfl, rfl, fun _ _ _ _ _ _ us hl => match us, hl with | [_, _, _], _ => rfl, fun _ h => nomatch h⟩
theorem o__law_some : SdOk L.G d__law_some := ⟨⟨rfl, rfl, rfl, by decide +kernel, rfl, by decide +kernel, by decide +kernel⟩, by kernel_rfl, rfl, rfl, fun _ _ _ _ _ _ us hl => match us, hl with | [_, _, _], _ => rfl, fun _ h => nomatch h⟩
theorem o__law_wrong : SdOk L.G d__law_wrong := ⟨⟨rfl, rfl, rfl, by decide +kernel, rfl, by decide +kernel, by decide +kernel⟩, by kernel_rfl, rfl, rfl, fun _ _ _ _ _ _ us hl => match us, hl with | [_, _, _], _ => rfl, fun _ h => nomatch h⟩
theorem o_Table_is_row : SdOk L.G d_Table_is_row := ⟨⟨rfl, rfl, rfl, by decide +kernel, rfl, by decide +kernel, by decide +kernel⟩, by kernel_rfl, rfl, rfl, fun _ _ _ _ _ _ us hl => match us, hl with | [_, _], _ => rfl, fun _ h => nomatch h⟩
theorem o_Table_key_of : SdOk L.G d_Table_key_of := ⟨⟨rfl, rfl, rfl, by decide +kernel, rfl, by decide +kernel, by decide +kernel⟩, by kernel_rfl, rfl, rfl, fun _ _ _ _ _ _ us hl => match us, hl with | [_, _], _ => rfl, fun _ h => nomatch h⟩
theorem o__law_value : SdOk L.G d__law_value := ⟨⟨rfl, rfl, rfl, by decide +kernel, rfl, by decide +kernel, by decide +kernel⟩, by kernel_rfl, rfl, rfl, fun _ _ _ _ _ _ us hl => match us, hl with | [_, _], _ => rfl, fun _ h => nomatch h⟩
theorem o_Table_of : SdOk L.G d_Table_of := ⟨⟨rfl, rfl, rfl, by decide +kernel, rfl, by decide +kernel, by decide +kernel⟩, by kernel_rfl, rfl, rfl, trivial, List.forall_mem_cons.mpr ⟨⟨fun _ => ⟨rfl, fun _ _ _ _ _ _ us ws mvs h1 h2 h3 => match us, ws, mvs, h1, h2, h3 with | [_, _], [_], [_, _, _], _, _, _ => ⟨_, _, _, _, _, _, rfl, rfl, ⟨_, _, _, _, _, _, rfl, rfl, ⟨_, _, _, _, _, _, rfl, rfl, rfl⟩⟩⟩⟩, fun h => Bool.noConfusion h⟩, fun _ h => nomatch h⟩⟩
theorem o__law_draw : SdOk L.G d__law_draw := ⟨⟨rfl, rfl, rfl, by decide +kernel, rfl, by decide +kernel, by decide +kernel⟩, by kernel_rfl, rfl, rfl, fun _ _ _ _ _ _ us hl => match us, hl with | [_, _], _ => rfl, fun _ h => nomatch h⟩
theorem o__law_pen : SdOk L.G d__law_pen := ⟨⟨rfl, rfl, rfl, by decide +kernel, rfl, by decide +kernel, by decide +kernel⟩, by kernel_rfl, rfl, rfl, fun _ _ _ _ _ _ us hl => match us, hl with | [_], _ => rfl, fun _ h => nomatch h⟩
theorem o_is_value : SdOk L.G d_is_value := ⟨⟨rfl, rfl, rfl, by decide +kernel, rfl, by decide +kernel, by decide +kernel⟩, by kernel_rfl, rfl, rfl, fun _ _ _ _ _ _ us hl => match us, hl with | [_], _ => rfl, fun _ h => nomatch h⟩
theorem o_Table___init__ : SdOk L.G d_Table___init__ := ⟨⟨rfl, rfl, rfl, by decide +kernel, rfl, by decide +kernel, by decide +kernel⟩, by kernel_rfl, rfl, rfl, trivial, List.forall_mem_cons.mpr ⟨⟨fun h => Bool.noConfusion h, fun _ => ⟨["self", "key", "fixed", "unique", "reuse"], "columns", rfl, rfl, fun _ _ _ _ _ _ us more ws mvs h1 h2 h3 => match us, more, ws, mvs, h1, h2, h3 with | [_], [], [_, _, _, _], [], _, _, _ => rfl | [_], _ :: _, [_, _, _, _], [], _, _, _ => rfl⟩⟩, fun _ h => nomatch h⟩⟩
theorem o_is_number : SdOk L.G d_is_number := ⟨⟨rfl, rfl, rfl, by decide +kernel, rfl, by decide +kernel, by decide +kernel⟩, by kernel_rfl, rfl, rfl, fun _ _ _ _ _ _ us hl => match us, hl with | [_], _ => rfl, fun _ h => nomatch h⟩
theorem o_are_among : SdOk L.G d_are_among := ⟨⟨rfl, rfl, rfl, by decide +kernel, rfl, by decide +kernel, by decide +kernel⟩, by kernel_rfl, rfl, rfl, fun _ _ _ _ _ _ us hl => match us, hl with | [_, _], _ => rfl, fun _ h => nomatch h⟩
theorem o_are_distinct : SdOk L.G d_are_distinct := ⟨⟨rfl, rfl, rfl, by decide +kernel, rfl, by decide +kernel, by decide +kernel⟩, by kernel_rfl, rfl, rfl, fun _ _ _ _ _ _ us hl => match us, hl with | [_], _ => rfl, fun _ h => nomatch h⟩
theorem o_is_name : SdOk L.G d_is_name := ⟨⟨rfl, rfl, rfl, by decide +kernel, rfl, by decide +kernel, by decide +kernel⟩, by kernel_rfl, rfl, rfl, fun _ _ _ _ _ _ us hl => match us, hl with | [_], _ => rfl, fun _ h => nomatch h⟩
theorem o_is_integer : SdOk L.G d_is_integer := ⟨⟨rfl, rfl, rfl, by decide +kernel, rfl, by decide +kernel, by decide +kernel⟩, by kernel_rfl, rfl, rfl, fun _ _ _ _ _ _ us hl => match us, hl with | [_], _ => rfl, fun _ h => nomatch h⟩
theorem oks : ∀ (i : Nat) (d : Sd), L.defs[i]? = some d → SdOk L.G d
  | 0, _, h => by cases h; exact o_law
  | 1, _, h => by cases h; exact o_Table_cut
  | 2, _, h => by cases h; exact o__law_some
  | 3, _, h => by cases h; exact o__law_wrong
  | 4, _, h => by cases h; exact o_Table_is_row
  | 5, _, h => by cases h; exact o_Table_key_of
  | 6, _, h => by cases h; exact o__law_value
  | 7, _, h => by cases h; exact o_Table_of
  | 8, _, h => by cases h; exact o__law_draw
  | 9, _, h => by cases h; exact o__law_pen
  | 10, _, h => by cases h; exact o_is_value
  | 11, _, h => by cases h; exact o_Table___init__
  | 12, _, h => by cases h; exact o_is_number
  | 13, _, h => by cases h; exact o_are_among
  | 14, _, h => by cases h; exact o_are_distinct
  | 15, _, h => by cases h; exact o_is_name
  | 16, _, h => by cases h; exact o_is_integer
  | n + 17, _, h => by cases h
abbrev P : List Fd := L.defs.map (·.d)
end Lw
end
section
set_option Elab.async false
set_option linter.all false
set_option maxRecDepth 100000
set_option maxHeartbeats 0
namespace Lw
open PySem PySem.Spec PyProof.Rows L2 Ir
abbrev R : PySem.W.OpenRow := PySem.W.OpenLaw.row PySem.Challenge.rw_speaklast_k10_rows_of_tables
abbrev hk : PySem.W.Hook := hookJ 7 L
def ob (s : PySem.W.SharedT) : AlJ := obsJ 7 L (HandSHeadRun.getT s)
theorem ob_eq (s : PySem.W.SharedT) : ob s = hk.obs s.abs := obsJ_eq (HandSHeadRun.getT_eq s)
theorem run (w : World) : HandSHeadRun.RunEq R (PySem.W.view R.prog [22]) hk ob 4000 ["FeedError", "InvalidTable", "LETTERS", "LONGEST", "is_name", "is_integer", "TOO_LONG", "are_distinct", "are_among", "is_number", "is_value", "Table", "_law_pen", "_law_draw", "_law_some", "_law_value", "_law_wrong"] w := by
  intro os
  kernel_rfl
end Lw
end
section
set_option Elab.async false
set_option linter.all false
set_option maxRecDepth 100000
set_option maxHeartbeats 0
open PySem PySem.W PySem.Calls PyProof.Rows
theorem Lw.holds (fu k : Nat) (hk : Ir.Room (k + 2) PySem.callerA) (plain : ∀ (ns : List Int) (d : Ir.D), ns.length ≤ 63 → (∀ z ∈ ns, Builtin.Int.intBits z ≤ 1048576) → (d = .klst (ns.map .int) ∨ d = .lst (ns.map .int)) → ∃ s', Ir.rawL Lw.L.G Lw.P fu (k + 2) 0 [d] [] = .ok (.bl true) s') :
    PySem.Challenge.rw_speaklast_k10_rows_of_tables.Holds := by
  w_on; o_law
  refine HandSHeadRun.head_any (r := OpenLaw.row PySem.Challenge.rw_speaklast_k10_rows_of_tables) (q := view (OpenLaw.row PySem.Challenge.rw_speaklast_k10_rows_of_tables).prog [22]) (H := Lw.hk) (ob := Lw.ob) (M := 4000)
    (loose := ["FeedError", "InvalidTable", "LETTERS", "LONGEST", "is_name", "is_integer", "TOO_LONG", "are_distinct", "are_among", "is_number", "is_value", "Table", "_law_pen", "_law_draw", "_law_some", "_law_value", "_law_wrong"])
    (d := HandSHeadRun.topDef (OpenLaw.row PySem.Challenge.rw_speaklast_k10_rows_of_tables).prog 22) (kwd := []) Lw.ob_eq
    (by kernel_rfl) (fun s => by kernel_rfl) Lw.run (by kernel_rfl) (by kernel_rfl) (by kernel_rfl) (by rfl) (by first | assumption | decide +kernel) (by decide +kernel) ⟨rfl, rfl, rfl, rfl, rfl, by decide +kernel⟩ ?hw ?hc
  case hw => w_witness2
  case hc =>
    refine Ir.walk_G (l := PySem.Challenge.rw_speaklast_k10_rows_of_tables) (n := 63) (k := k + 2) (CX := fun w => L2.CX (PySem.Challenge.rw_speaklast_k10_rows_of_tables).prog w) rfl (by decide) (by kernel_rfl) hk ?F (fun _ _ _ _ _ h => by
      obtain ⟨_, _, _, _, _, _, _, _, _, _, _, _, z⟩ := h
      exact z)
    intro w mg fa h Y G hmg0
    obtain ⟨K, KX, c⟩ := Y
    have hmg : mg ("law" : PySem.Str) = some (.ref fa) := by
      have e : (HandSHeadRun.topDef (OpenLaw.row PySem.Challenge.rw_speaklast_k10_rows_of_tables).prog 22).name = ("law" : PySem.Str) := by kernel_rfl
      rw [← e]
      exact hmg0
    exact ⟨K, KX, Ir.law_at (d0 := Lw.d_law) rfl rfl rfl rfl rfl Lw.oks plain KX c G hmg⟩
end
section
set_option Elab.async false
set_option linter.all false
set_option maxRecDepth 100000
namespace Lw
open PySem Ir
theorem ixP0 {s : Sto} {p : D} {ds : List D} {i : Int} {Q : D → Sto → Prop} (h : p = .lst ds) : @wpo (ap2 .ix (p :: s) (.ref 0) (.int i)) Q = @wpo ((L2.atI ds i).bind fun x => ret (p :: s) x) Q := by
  subst h
  rfl
theorem mul_l {i j : Int} (h : i.natAbs < 2 ^ 64) : mulOk i j = true := by
  unfold mulOk
  rw [decide_eq_true h]
  rfl
theorem mul_r {i j : Int} (h : j.natAbs < 2 ^ 64) : mulOk i j = true := by
  unfold mulOk
  rw [decide_eq_true h]
  simp only [Bool.or_true, Bool.true_or]
def pen (cells : List Int) (a l : Int) : D := .lst [.lst (cells.map .int), .int a, .int l]
theorem ix_pen {s : Sto} {cells : List Int} {a l i : Int} {Q : D → Sto → Prop} : @wpo (ap2 .ix (pen cells a l :: s) (.ref 0) (.int i)) Q = @wpo ((L2.atI [.lst (cells.map .int), .int a, .int l] i).bind fun x => ret (pen cells a l :: s) x) Q := rfl
theorem st_pen1 {s : Sto} {cells : List Int} {a l v : Int} : stL (pen cells a l :: s) (.ref 0) (.int 1) (.int v) = some (pen cells v l :: s) := rfl
theorem st_pen2 {s : Sto} {cells : List Int} {a l v : Int} : stL (pen cells a l :: s) (.ref 0) (.int 2) (.int v) = some (pen cells a v :: s) := rfl
local macro_rules
  | `(tactic| walk_at "w") => `(tactic| simp only [↓ws_nil, ↓ws_pass, ↓ws_brk, ↓ws_cnt, ↓ws_retN, ↓ws_ret, ↓ws_expr, ↓ws_set, ↓ws_asg, ↓ws_if, ↓ws_sub, ↓ws_fld, ↓ws_dput, ↓ws_par, ↓ws_par3, ↓ws_for, ↓ws_while,
      ↓wl_nil, ↓wl_cons, ↓wx_var, ↓wx_con, ↓wx_glb, ↓wx_bty, ↓wx_bin, ↓wx_cmp, ↓wx_ix, ↓wx_bt, ↓wx_tup, ↓wx_lst, ↓wx_neg, ↓wx_meth, ↓wx_fld, ↓wx_call, ↓wx_own, ↓wx_cmt, ↓wx_make, ↓wx_mkv, ↓wx_cval, ↓wx_opk, ↓wx_inv, ↓wx_ink, ↓wx_eqk, ↓wx_bok, ↓wx_srt, ↓wx_sset, ↓wx_lset, ↓wx_rpr, ↓wx_dcpy, ↓wx_dlst, ↓wx_dpr, ↓wx_rvs, ↓wx_dx, ↓wx_din, ↓wx_dqe, ↓wx_rp, ↓wx_callo, ↓wx_kfn, ↓wx_kmake, ↓wx_kown, ↓wx_kcmt, ↓wx_kmkv, ↓wag_lone, ↓wag_nil, ↓wag_f, ↓wag_tt, ↓wsq_nil, ↓wsq_f, ↓wsq_t, dropE_zero, dropE_succ, List.length_nil, ↓sqK_some, ↓seqO_lst, ↓seqO_tup, ↓seqO_klst, ↓wx_bmx, ↓wx_dzp, ↓wx_dct, ↓wx_dsp, ↓txK_some, ↓wx_slc_tt, ↓wx_slc_ft, ↓wx_slc_tf, ↓wx_slc_ff, ↓wx_and, ↓wx_or, ↓wx_not, ↓wx_ite, ↓wx_chain, ↓wx_comp,
      ↓wt_yes, ↓wt_var, ↓wt_con, ↓wt_glb, ↓wt_cmp, ↓wt_ink, ↓wt_eqk, ↓wt_bok, ↓wt_din, ↓wt_dqe, ↓wt_dx, ↓wt_callo, ↓wt_chain, ↓wt_bt, ↓wt_call, ↓wt_own, ↓wt_cmt, ↓wt_fld, ↓wt_ix, ↓wt_and, ↓wt_or, ↓wt_not, ↓wi_seq, ↓wi_rng1, ↓wi_rng2, ↓wi_rng3, ↓wi_enum, ↓wi_zip,
      ↓atE_zero, ↓atE_succ, ↓br_true, ↓br_false, ↓br_not, ↓sat_ok, ↓blK_bl, ↓intK_int, ↓truK_some, ↓stoK_some, ↓putK_one, ↓putK_two, ↓putK_three, ↓twoK_two, ↓threeK_three, ↓boolK_t, ↓boolK_f,
      ↓o_add, ↓o_sub, ↓o_mul, ↓o_fdiv, ↓o_mod, ↓o_pow, ↓o_lt, ↓o_le, ↓o_gt, ↓o_ge, ↓o_eq, ↓o_ne, ↓o_isn, ↓o_notn, ↓o_isb, ↓o_notb, ↓o_tup0, ↓o_lst0, ↓o_lstm0, ↓o_tup, ↓o_lst, ↓o_lstm, ↓sz_nil, ↓sz_1, ↓sz_2, ↓sz_3, ↓sz_4, ↓sz_5, ↓sz_6, ↓o_neg, ↓o_abs, ↓o_toInt, ↓o_toIntb, ↓o_boolb, ↓o_boolT, ↓o_boolL, ↓o_max2, ↓o_min2, ↓o_lenL, ↓o_lenT, ↓o_lenK, ↓o_tupleL, ↓o_tupleT, ↓o_listL, ↓o_listT, ↓o_listmL, ↓o_listmT, ↓o_addT, ↓o_addL, ↓o_ixL, ↓o_ixT, ↓wpo_some, ↓wpo_ret, ↓wpo_bind,
      ix_0, ix_1, ix_2, tru_bl, tru_int, tru_non, tru_tup, tru_lst, isNon_int, isNon_non, isNon_tup,
      Option.isNone_none, Option.isNone_some, decide_true, decide_false, Int.reduceToNat, Int.reducePow, ↓nxt_nx, ↓nxt_rt, ↓nxt_bk, ↓nxt_ct, ↓nxt_ex, ↓lop_nx, ↓lop_rt, ↓lop_bk, ↓lop_ct, ↓lop_ex, ↓endF_nx, ↓endF_rt, ↓endT_nx, ↓endT_rt, ↓ix_pen, ↓st_pen1, ↓st_pen2, startE, wipeE, List.map_cons, List.map_nil, List.replicate, List.length_cons, List.length_nil, List.cons_append, List.nil_append, List.set_cons_zero, List.set_cons_succ, Nat.reduceAdd, Nat.reduceSub, true_and, and_true, ↓reduceIte, Bool.false_eq_true, Bool.not_true, Bool.not_false])
  | `(tactic| walk_at "v") => `(tactic| simp only [↓ws_nil, ↓ws_pass, ↓ws_brk, ↓ws_cnt, ↓ws_retN, ↓ws_ret, ↓ws_expr, ↓ws_set, ↓ws_asg, ↓ws_sub, ↓ws_fld, ↓ws_dput, ↓ws_par, ↓ws_par3, ↓ws_for, ↓ws_while,
      ↓wl_nil, ↓wl_cons, ↓wx_var, ↓wx_con, ↓wx_glb, ↓wx_bty, ↓wx_bin, ↓wx_cmp, ↓wx_ix, ↓wx_bt, ↓wx_tup, ↓wx_lst, ↓wx_neg, ↓wx_meth, ↓wx_fld, ↓wx_call, ↓wx_own, ↓wx_cmt, ↓wx_make, ↓wx_mkv, ↓wx_cval, ↓wx_opk, ↓wx_inv, ↓wx_ink, ↓wx_eqk, ↓wx_bok, ↓wx_srt, ↓wx_sset, ↓wx_lset, ↓wx_rpr, ↓wx_dcpy, ↓wx_dlst, ↓wx_dpr, ↓wx_rvs, ↓wx_dx, ↓wx_din, ↓wx_dqe, ↓wx_rp, ↓wx_callo, ↓wx_kfn, ↓wx_kmake, ↓wx_kown, ↓wx_kcmt, ↓wx_kmkv, ↓wag_lone, ↓wag_nil, ↓wag_f, ↓wag_tt, ↓wsq_nil, ↓wsq_f, ↓wsq_t, dropE_zero, dropE_succ, List.length_nil, ↓sqK_some, ↓seqO_lst, ↓seqO_tup, ↓seqO_klst, ↓wx_bmx, ↓wx_dzp, ↓wx_dct, ↓wx_dsp, ↓txK_some, ↓wx_slc_tt, ↓wx_slc_ft, ↓wx_slc_tf, ↓wx_slc_ff, ↓wx_and, ↓wx_or, ↓wx_not, ↓wx_ite, ↓wx_chain, ↓wx_comp,
      ↓wt_yes, ↓wt_var, ↓wt_con, ↓wt_glb, ↓wt_cmp, ↓wt_ink, ↓wt_eqk, ↓wt_bok, ↓wt_din, ↓wt_dqe, ↓wt_dx, ↓wt_callo, ↓wt_chain, ↓wt_bt, ↓wt_call, ↓wt_own, ↓wt_cmt, ↓wt_fld, ↓wt_ix, ↓wt_and, ↓wt_or, ↓wt_not, ↓wi_seq, ↓wi_rng1, ↓wi_rng2, ↓wi_rng3, ↓wi_enum, ↓wi_zip,
      ↓atE_zero, ↓atE_succ, ↓br_true, ↓br_false, ↓br_not, ↓sat_ok, ↓blK_bl, ↓intK_int, ↓truK_some, ↓stoK_some, ↓putK_one, ↓putK_two, ↓putK_three, ↓twoK_two, ↓threeK_three, ↓boolK_t, ↓boolK_f,
      ↓o_add, ↓o_sub, ↓o_mul, ↓o_fdiv, ↓o_mod, ↓o_pow, ↓o_lt, ↓o_le, ↓o_gt, ↓o_ge, ↓o_eq, ↓o_ne, ↓o_isn, ↓o_notn, ↓o_isb, ↓o_notb, ↓o_tup0, ↓o_lst0, ↓o_lstm0, ↓o_tup, ↓o_lst, ↓o_lstm, ↓sz_nil, ↓sz_1, ↓sz_2, ↓sz_3, ↓sz_4, ↓sz_5, ↓sz_6, ↓o_neg, ↓o_abs, ↓o_toInt, ↓o_toIntb, ↓o_boolb, ↓o_boolT, ↓o_boolL, ↓o_max2, ↓o_min2, ↓o_lenL, ↓o_lenT, ↓o_lenK, ↓o_tupleL, ↓o_tupleT, ↓o_listL, ↓o_listT, ↓o_listmL, ↓o_listmT, ↓o_addT, ↓o_addL, ↓o_ixL, ↓o_ixT, ↓wpo_some, ↓wpo_ret, ↓wpo_bind,
      ix_0, ix_1, ix_2, tru_bl, tru_int, tru_non, tru_tup, tru_lst, isNon_int, isNon_non, isNon_tup,
      Option.isNone_none, Option.isNone_some, decide_true, decide_false, Int.reduceToNat, Int.reducePow, ↓nxt_nx, ↓nxt_rt, ↓nxt_bk, ↓nxt_ct, ↓nxt_ex, ↓lop_nx, ↓lop_rt, ↓lop_bk, ↓lop_ct, ↓lop_ex, ↓endF_nx, ↓endF_rt, ↓endT_nx, ↓endT_rt, ↓ix_pen, ↓st_pen1, ↓st_pen2, startE, wipeE, List.map_cons, List.map_nil, List.replicate, List.length_cons, List.length_nil, List.cons_append, List.nil_append, List.set_cons_zero, List.set_cons_succ, Nat.reduceAdd, Nat.reduceSub, true_and, and_true, ↓reduceIte, Bool.false_eq_true, Bool.not_true, Bool.not_false])
theorem bels_ints (n : Nat) : ∀ ns : List Int, bels n (ns.map .int) = true
  | [] => rfl
  | z :: ns => by simp only [List.map_cons, bels, bel, bels_ints n ns, Bool.and_self]
theorem pen_bel {n : Nat} {cells : List Int} {a l : Int} : bel n (pen cells a l) = true := by simp only [pen, bel, bels, bels_ints, Bool.and_self]
def Pen (cells : List Int) (n : Int) (p : D) : Prop := ∃ a l, p = pen cells a l ∧ 0 ≤ a ∧ a ≤ n ∧ 0 ≤ l
theorem Pen.free {cells : List Int} {n : Int} {p : D} (h : Pen cells n p) : Ir.free p = true := by
  obtain ⟨a, l, rfl, _⟩ := h
  exact pen_bel
theorem Pen.mono {cells : List Int} {n m : Int} {p : D} (h : Pen cells n p) (hm : n ≤ m) : Pen cells m p := by
  obtain ⟨a, l, e, h0, h1, h2⟩ := h
  exact ⟨a, l, e, h0, by omega, h2⟩
theorem atI_get {ns : List Int} {i : Int} (h0 : 0 ≤ i) (h1 : i < ns.length) : ∃ c, L2.atI (ns.map D.int) i = some (D.int c) := by
  unfold L2.atI L2.ixN
  rw [if_pos h0, List.length_map, if_pos h1]
  have h : i.toNat < ns.length := by omega
  refine ⟨ns[i.toNat], ?_⟩
  show (ns.map D.int)[i.toNat]? = _
  rw [List.getElem?_map, List.getElem?_eq_getElem h]
  rfl
theorem oks_int (l : List Int) : okds 0 (l.map .int) := okds_map fun a _ => okd_int
theorem mix_bd {x a k1 k2 k3 : Int} (h0 : 0 ≤ x) (h1 : x < 2 ^ 32) (g0 : 0 ≤ a) (g1 : a < 2 ^ 20) (c1 : 0 ≤ k1 ∧ k1 < 1000000) (c2 : 0 ≤ k2 ∧ k2 < 1000000) (c3 : 0 ≤ k3 ∧ k3 < 1000000) : (x * (2 * a + k1) + k2 * a * a + k3).natAbs < 2 ^ 64 := by
  have b1 : 0 ≤ x * (2 * a + k1) := Int.mul_nonneg h0 (by omega)
  have b2 : x * (2 * a + k1) ≤ 2 ^ 32 * (2 * 2 ^ 20 + 1000000) := Int.mul_le_mul (by omega) (by omega) (by omega) (by decide)
  have b5 : 0 ≤ k2 * a := Int.mul_nonneg (by omega) g0
  have b6 : k2 * a ≤ 1000000 * 2 ^ 20 := Int.mul_le_mul (by omega) (by omega) (by omega) (by decide)
  have b3 : 0 ≤ k2 * a * a := Int.mul_nonneg b5 g0
  have b4 : k2 * a * a ≤ (1000000 * 2 ^ 20) * 2 ^ 20 := Int.mul_le_mul b6 (by omega) (by omega) (by decide)
  omega
theorem mul_bd {k a : Int} (h : 0 ≤ k) (h1 : k < 1000000) (g0 : 0 ≤ a) (g1 : a < 2 ^ 20) : (k * a).natAbs < 2 ^ 64 := by
  have b5 : 0 ≤ k * a := Int.mul_nonneg h g0
  have b6 : k * a ≤ 1000000 * 2 ^ 20 := Int.mul_le_mul (by omega) (by omega) (by omega) (by decide)
  omega
variable {fu k : Nat} {s : Sto} {Q : D → Sto → Prop} {X : Xq} {cells : List Int} {n many : Int} {p : D} {r : Sto}
theorem f_draw_ok (hp : Pen cells n p) (hn : n < 2 ^ 20) (hm : 0 < many) (hb : many.natAbs.log2 < 9000) (hq : ∀ v p', 0 ≤ v → v < many → Pen cells (n + 1) p' → Q (.int v) (p' :: r)) :
    @cl L.G (rawL L.G P fu (k + 2)) i__law_draw [.ref 0, .int many] (p :: r) Q X := by
  obtain ⟨a, l, rfl, h0, h1, h2⟩ := hp
  have out : ∀ (v a2 l2 : Int), 0 ≤ v → v < many → 0 ≤ a2 → a2 ≤ n + 1 → 0 ≤ l2 → @lv (pen cells a l :: r) (pen cells a2 l2 :: r) (.int v) Q X := fun v a2 l2 g1 g2 g3 g4 g5 => by
    try walk_at "w"
    rw [lv_head0 pen_bel (by simp only [bel])]
    exact hq v _ g1 g2 ⟨a2, l2, rfl, g3, g4, g5⟩
  refine fn_cl rfl rfl rfl ?_
  unfold b__law_draw
  walk_at "v"
  rw [ws_if]
  try walk_at "w"
  refine br_dec (fun hl => ?_) fun hl => ?_
  · try walk_at "w"
    refine ⟨hm, ?_⟩
    try walk_at "w"
    refine ⟨⟨hm, hb⟩, ?_⟩
    try walk_at "w"
    exact out _ _ _ (Int.emod_nonneg _ (by omega)) (Int.emod_lt_of_pos _ hm) h0 (by omega) (Int.ediv_nonneg h2 (by omega))
  · walk_at "v"
    refine ⟨mul_l (by decide), ?_⟩
    refine ws_ifR (fun env s2 => ∃ c, env = [some (.ref 0), some (.int many), none, some (.int a), some (.int c), none, none] ∧ s2 = pen cells (a + 1) l :: r) ?_ (fun env s2 h => ?_)
    · try walk_at "w"
      rw [o_neE rfl (oks_int cells) (by decide)]
      try walk_at "w"
      refine br_bool (fun hc => ?_) fun hc => ?_
      · try walk_at "w"
        exact ⟨_, rfl⟩
      · try walk_at "w"
        have hne : cells ≠ [] := fun e => by subst e; simp at hc
        have hpos : 0 < (cells.length : Int) := by
          have := List.length_pos_iff.mpr hne
          omega
        rw [List.length_map]
        refine ⟨hpos, ?_⟩
        obtain ⟨c, hc⟩ := atI_get (ns := cells) (Int.emod_nonneg a (Int.ne_of_gt hpos)) (Int.emod_lt_of_pos a hpos)
        rw [hc]
        try walk_at "w"
        exact ⟨_, rfl⟩
    · obtain ⟨c, rfl, rfl⟩ := h
      rw [ws_if]
      have abs0 : 0 ≤ (if c < 0 then -c else c) := by split <;> omega
      have small : @ws L.G (lev L.G P fu k) (match b__law_draw with | .cons _ (.cons _ (.cons _ (.cons _ (.cons _ (.cons _ t))))) => t | _ => .nil) [some (.ref 0), some (.int many), none, some (.int a), some (.int c), none, none] (pen cells (a + 1) l :: r) (endP false (pen cells a l :: r) Q X) := by
        unfold b__law_draw
        try walk_at "w"
        have e1 : 0 ≤ c % 2147483549 := Int.emod_nonneg _ (by decide)
        have e2 : c % 2147483549 < 2147483549 := Int.emod_lt_of_pos _ (by decide)
        have m1 : ∀ z : Int, 0 ≤ z % 2147483579 := fun z => Int.emod_nonneg _ (by decide)
        have m2 : ∀ z : Int, z % 2147483579 < 2 ^ 32 := fun z => Int.lt_trans (Int.emod_lt_of_pos _ (by decide)) (by decide)
        have m3 : ∀ z : Int, (z % 2147483579).natAbs < 2 ^ 64 := fun z => by have := m1 z; have := m2 z; omega
        refine ⟨by decide, mul_l (by decide), ⟨by decide, by decide, by omega⟩, by decide, mul_l (by decide), mul_l (m3 _), mul_l (by decide), mul_l (mul_bd (by decide) (by decide) h0 (by omega)), ⟨by decide, by decide, mix_bd (m1 _) (m2 _) h0 (by omega) (by decide) (by decide) (by decide)⟩, by decide, by decide, hm, ?_⟩
        exact out _ _ _ (Int.emod_nonneg _ (by omega)) (Int.emod_lt_of_pos _ hm) (by omega) (by omega) h2
      try walk_at "w"
      rw [List.length_map]
      refine br_dec (fun hc => ?_) fun hc => ?_
      · try walk_at "w"
        refine ⟨by decide, ?_⟩
        refine br_dec (fun hc2 => ?_) fun hc2 => ?_
        · try walk_at "w"
          refine ⟨mul_l (by decide), ?_⟩
          generalize (if c < 0 then -c else c) = ac at *
          refine ⟨⟨hm, hb⟩, ?_⟩
          try walk_at "w"
          refine ⟨hm, ?_⟩
          try walk_at "w"
          refine out _ _ _ (Int.emod_nonneg _ (by omega)) (Int.emod_lt_of_pos _ hm) (by omega) (by omega) (Int.ediv_nonneg ?_ (by omega))
          split <;> omega
        · simp only [br_false, ws_nil, nxt_nx]
          exact small
      · simp only [br_false, ws_nil, nxt_nx]
        exact small
end Lw
end
section
set_option Elab.async false
set_option linter.all false
set_option maxRecDepth 100000
namespace Lw
open PySem Ir
/-! the pen is made; lists are popped from and added -/
theorem cutA_take {α : Type} (xs : List α) (c : Nat) : cutA xs none (some (c : Int)) = xs.take c := by
  unfold cutA
  rw [HT.sIx_nat, HT.sIx_none]
  simp only [List.drop_zero, Nat.sub_zero]
  by_cases h : c ≤ xs.length
  · rw [Nat.min_eq_left h]
  · rw [Nat.min_eq_right (by omega), List.take_length, List.take_of_length_le (by omega)]
variable {fu k : Nat} {s : Sto} {Q : D → Sto → Prop} {X : Xq} {cells : List Int} {n many : Int} {p : D} {r : Sto}
theorem seqIx {i : Int} {len : Nat} (h0 : 0 ≤ i) (h1 : i < len) : seqIndex? i len = some i.toNat := by
  unfold seqIndex?
  have e : ¬ (i < 0) := by omega
  simp [e]
  omega
theorem o_popAt {s : Sto} {n : Nat} {ds : List D} {T : Tab} {i : Int} {Q : D → Sto → Prop} {x : D} (h : s[n]? = some (.lst ds)) (h0 : 0 ≤ i) (h1 : i < ds.length) (hb : ds.length < 2 ^ 40) (hx : ds[i.toNat]? = some x) : @wpo (apn T .popAt s [.ref n, .int i]) Q = Q x (s.set n (.lst (ds.eraseIdx i.toNat))) := by
  simp only [apn, two, apI1, apPopAt, mutL, h]
  rw [if_pos ⟨by omega, by omega⟩, seqIx h0 h1]
  show @wpo ((ds[i.toNat]?).bind _) Q = _
  rw [hx]
  rfl
theorem o_addRm {s : Sto} {n : Nat} {ds es : List D} {Q : D → Sto → Prop} (h : s[n]? = some (.lst ds)) : @wpo (ap2 (.add true) s (.ref n) (.lst es)) Q = (ds.length + es.length ≤ sizeLine ∧ Q (.ref s.length) (s ++ [.lst (ds ++ es)])) := by
  have e : ap2 (.add true) s (.ref n) (.lst es) = if ds.length + es.length ≤ sizeLine then newL true s (ds ++ es) else none := by
    show apAdd true s (.ref n) (.lst es) = _
    simp only [apAdd, look, h, Option.getD_some]
  rw [e, wpo_if]
  rfl
theorem set_in {t : Sto} {j : Nat} {x y a : D} (h : j < t.length) : (t.set j x ++ [a]).set j y = t.set j y ++ [a] := by
  rw [List.set_append_left _ _ (by simpa using h), List.set_set]
theorem get_in {t : Sto} {j : Nat} {x a : D} (h : j < t.length) : (t.set j x ++ [a])[j]? = some x := by
  rw [List.getElem?_append_left (by simpa using h), List.getElem?_set_self h]
theorem get_set {t : Sto} {j : Nat} {x : D} (h : j < t.length) : (t.set j x)[j]? = some x := List.getElem?_set_self h
local macro_rules
  | `(tactic| walk_at "w") => `(tactic| simp only [↓ws_nil, ↓ws_pass, ↓ws_brk, ↓ws_cnt, ↓ws_retN, ↓ws_ret, ↓ws_expr, ↓ws_set, ↓ws_asg, ↓ws_if, ↓ws_sub, ↓ws_fld, ↓ws_dput, ↓ws_par, ↓ws_par3, ↓ws_for, ↓ws_while,
      ↓wl_nil, ↓wl_cons, ↓wx_var, ↓wx_con, ↓wx_glb, ↓wx_bty, ↓wx_bin, ↓wx_cmp, ↓wx_ix, ↓wx_bt, ↓wx_tup, ↓wx_lst, ↓wx_neg, ↓wx_meth, ↓wx_fld, ↓wx_call, ↓wx_own, ↓wx_cmt, ↓wx_make, ↓wx_mkv, ↓wx_cval, ↓wx_opk, ↓wx_inv, ↓wx_ink, ↓wx_eqk, ↓wx_bok, ↓wx_srt, ↓wx_sset, ↓wx_lset, ↓wx_rpr, ↓wx_dcpy, ↓wx_dlst, ↓wx_dpr, ↓wx_rvs, ↓wx_dx, ↓wx_din, ↓wx_dqe, ↓wx_rp, ↓wx_callo, ↓wx_kfn, ↓wx_kmake, ↓wx_kown, ↓wx_kcmt, ↓wx_kmkv, ↓wag_lone, ↓wag_nil, ↓wag_f, ↓wag_tt, ↓wsq_nil, ↓wsq_f, ↓wsq_t, dropE_zero, dropE_succ, List.length_nil, ↓sqK_some, ↓seqO_lst, ↓seqO_tup, ↓seqO_klst, ↓wx_bmx, ↓wx_dzp, ↓wx_dct, ↓wx_dsp, ↓txK_some, ↓wx_slc_tt, ↓wx_slc_ft, ↓wx_slc_tf, ↓wx_slc_ff, ↓wx_and, ↓wx_or, ↓wx_not, ↓wx_ite, ↓wx_chain, ↓wx_comp,
      ↓wt_yes, ↓wt_var, ↓wt_con, ↓wt_glb, ↓wt_cmp, ↓wt_ink, ↓wt_eqk, ↓wt_bok, ↓wt_din, ↓wt_dqe, ↓wt_dx, ↓wt_callo, ↓wt_chain, ↓wt_bt, ↓wt_call, ↓wt_own, ↓wt_cmt, ↓wt_fld, ↓wt_ix, ↓wt_and, ↓wt_or, ↓wt_not, ↓wi_seq, ↓wi_rng1, ↓wi_rng2, ↓wi_rng3, ↓wi_enum, ↓wi_zip,
      ↓atE_zero, ↓atE_succ, ↓br_true, ↓br_false, ↓br_not, ↓sat_ok, ↓blK_bl, ↓intK_int, ↓truK_some, ↓stoK_some, ↓putK_one, ↓putK_two, ↓putK_three, ↓twoK_two, ↓threeK_three, ↓boolK_t, ↓boolK_f,
      ↓o_add, ↓o_sub, ↓o_mul, ↓o_fdiv, ↓o_mod, ↓o_pow, ↓o_lt, ↓o_le, ↓o_gt, ↓o_ge, ↓o_eq, ↓o_ne, ↓o_isn, ↓o_notn, ↓o_isb, ↓o_notb, ↓o_tup0, ↓o_lst0, ↓o_lstm0, ↓o_tup, ↓o_lst, ↓o_lstm, ↓sz_nil, ↓sz_1, ↓sz_2, ↓sz_3, ↓sz_4, ↓sz_5, ↓sz_6, ↓o_neg, ↓o_abs, ↓o_toInt, ↓o_toIntb, ↓o_boolb, ↓o_boolT, ↓o_boolL, ↓o_max2, ↓o_min2, ↓o_lenL, ↓o_lenT, ↓o_lenK, ↓o_tupleL, ↓o_tupleT, ↓o_listL, ↓o_listT, ↓o_listmL, ↓o_listmT, ↓o_addT, ↓o_addL, ↓o_ixL, ↓o_ixT, ↓wpo_some, ↓wpo_ret, ↓wpo_bind,
      ix_0, ix_1, ix_2, tru_bl, tru_int, tru_non, tru_tup, tru_lst, isNon_int, isNon_non, isNon_tup,
      Option.isNone_none, Option.isNone_some, decide_true, decide_false, Int.reduceToNat, Int.reducePow, ↓nxt_nx, ↓nxt_rt, ↓nxt_bk, ↓nxt_ct, ↓nxt_ex, ↓lop_nx, ↓lop_rt, ↓lop_bk, ↓lop_ct, ↓lop_ex, ↓endF_nx, ↓endF_rt, ↓endT_nx, ↓endT_rt, ↓ix_pen, ↓st_pen1, ↓st_pen2, startE, wipeE, List.map_cons, List.map_nil, List.replicate, List.length_cons, List.length_nil, List.cons_append, List.nil_append, List.set_cons_zero, List.set_cons_succ, Nat.reduceAdd, Nat.reduceSub, true_and, and_true, ↓reduceIte, Bool.false_eq_true, Bool.not_true, Bool.not_false])
  | `(tactic| walk_at "v") => `(tactic| simp only [↓ws_nil, ↓ws_pass, ↓ws_brk, ↓ws_cnt, ↓ws_retN, ↓ws_ret, ↓ws_expr, ↓ws_set, ↓ws_asg, ↓ws_sub, ↓ws_fld, ↓ws_dput, ↓ws_par, ↓ws_par3, ↓ws_for, ↓ws_while,
      ↓wl_nil, ↓wl_cons, ↓wx_var, ↓wx_con, ↓wx_glb, ↓wx_bty, ↓wx_bin, ↓wx_cmp, ↓wx_ix, ↓wx_bt, ↓wx_tup, ↓wx_lst, ↓wx_neg, ↓wx_meth, ↓wx_fld, ↓wx_call, ↓wx_own, ↓wx_cmt, ↓wx_make, ↓wx_mkv, ↓wx_cval, ↓wx_opk, ↓wx_inv, ↓wx_ink, ↓wx_eqk, ↓wx_bok, ↓wx_srt, ↓wx_sset, ↓wx_lset, ↓wx_rpr, ↓wx_dcpy, ↓wx_dlst, ↓wx_dpr, ↓wx_rvs, ↓wx_dx, ↓wx_din, ↓wx_dqe, ↓wx_rp, ↓wx_callo, ↓wx_kfn, ↓wx_kmake, ↓wx_kown, ↓wx_kcmt, ↓wx_kmkv, ↓wag_lone, ↓wag_nil, ↓wag_f, ↓wag_tt, ↓wsq_nil, ↓wsq_f, ↓wsq_t, dropE_zero, dropE_succ, List.length_nil, ↓sqK_some, ↓seqO_lst, ↓seqO_tup, ↓seqO_klst, ↓wx_bmx, ↓wx_dzp, ↓wx_dct, ↓wx_dsp, ↓txK_some, ↓wx_slc_tt, ↓wx_slc_ft, ↓wx_slc_tf, ↓wx_slc_ff, ↓wx_and, ↓wx_or, ↓wx_not, ↓wx_ite, ↓wx_chain, ↓wx_comp,
      ↓wt_yes, ↓wt_var, ↓wt_con, ↓wt_glb, ↓wt_cmp, ↓wt_ink, ↓wt_eqk, ↓wt_bok, ↓wt_din, ↓wt_dqe, ↓wt_dx, ↓wt_callo, ↓wt_chain, ↓wt_bt, ↓wt_call, ↓wt_own, ↓wt_cmt, ↓wt_fld, ↓wt_ix, ↓wt_and, ↓wt_or, ↓wt_not, ↓wi_seq, ↓wi_rng1, ↓wi_rng2, ↓wi_rng3, ↓wi_enum, ↓wi_zip,
      ↓atE_zero, ↓atE_succ, ↓br_true, ↓br_false, ↓br_not, ↓sat_ok, ↓blK_bl, ↓intK_int, ↓truK_some, ↓stoK_some, ↓putK_one, ↓putK_two, ↓putK_three, ↓twoK_two, ↓threeK_three, ↓boolK_t, ↓boolK_f,
      ↓o_add, ↓o_sub, ↓o_mul, ↓o_fdiv, ↓o_mod, ↓o_pow, ↓o_lt, ↓o_le, ↓o_gt, ↓o_ge, ↓o_eq, ↓o_ne, ↓o_isn, ↓o_notn, ↓o_isb, ↓o_notb, ↓o_tup0, ↓o_lst0, ↓o_lstm0, ↓o_tup, ↓o_lst, ↓o_lstm, ↓sz_nil, ↓sz_1, ↓sz_2, ↓sz_3, ↓sz_4, ↓sz_5, ↓sz_6, ↓o_neg, ↓o_abs, ↓o_toInt, ↓o_toIntb, ↓o_boolb, ↓o_boolT, ↓o_boolL, ↓o_max2, ↓o_min2, ↓o_lenL, ↓o_lenT, ↓o_lenK, ↓o_tupleL, ↓o_tupleT, ↓o_listL, ↓o_listT, ↓o_listmL, ↓o_listmT, ↓o_addT, ↓o_addL, ↓o_ixL, ↓o_ixT, ↓wpo_some, ↓wpo_ret, ↓wpo_bind,
      ix_0, ix_1, ix_2, tru_bl, tru_int, tru_non, tru_tup, tru_lst, isNon_int, isNon_non, isNon_tup,
      Option.isNone_none, Option.isNone_some, decide_true, decide_false, Int.reduceToNat, Int.reducePow, ↓nxt_nx, ↓nxt_rt, ↓nxt_bk, ↓nxt_ct, ↓nxt_ex, ↓lop_nx, ↓lop_rt, ↓lop_bk, ↓lop_ct, ↓lop_ex, ↓endF_nx, ↓endF_rt, ↓endT_nx, ↓endT_rt, ↓ix_pen, ↓st_pen1, ↓st_pen2, startE, wipeE, List.map_cons, List.map_nil, List.replicate, List.length_cons, List.length_nil, List.cons_append, List.nil_append, List.set_cons_zero, List.set_cons_succ, Nat.reduceAdd, Nat.reduceSub, true_and, and_true, ↓reduceIte, Bool.false_eq_true, Bool.not_true, Bool.not_false])
variable {fu k : Nat} {s : Sto} {Q : D → Sto → Prop} {X : Xq} {cells : List Int} {n many : Int} {p : D} {r : Sto}
theorem f_pen_ok {ns : List Int} {d : D} (hd : d = .klst (ns.map .int) ∨ d = .lst (ns.map .int)) (hq : ∀ cells p, Pen cells 0 p → Q (.ref 0) [p]) : @cl L.G (rawL L.G P fu (k + 2)) i__law_pen [d] [] Q X := by
  have hk : ∀ Q : D → Sto → Prop, @wpo (apSl false [] d none (some 63)) Q = Q (.lst ((ns.map D.int).take 63)) [] := fun Q => by
    show @wpo (apSl false [] d none (some ((63 : Nat) : Int))) Q = _
    rcases hd with rfl | rfl
    · show @wpo (newL false [] (cutA (ns.map D.int) none (some ((63 : Nat) : Int)))) Q = _
      rw [cutA_take]
      rfl
    · show @wpo (newL false [] (cutA (ns.map D.int) none (some ((63 : Nat) : Int)))) Q = _
      rw [cutA_take]
      rfl
  refine fn_cl rfl rfl rfl ?_
  unfold b__law_pen
  walk_at "w"
  rw [hk, ← List.map_take]
  walk_at "w"
  exact hq (ns.take 63) _ ⟨0, 0, rfl, by omega, by omega, by omega⟩
end Lw
end
section
set_option Elab.async false
set_option linter.all false
set_option maxRecDepth 100000
/-! tables, plainly: columns, rows, keys -/
namespace Tb
open PySem
variable {α : Type}
/-- the value of a column -/
def valOf [Inhabited α] : List Str → List α → Str → α
  | c :: cs, v :: r, x => if x = c then v else valOf cs r x
  | _, _, _ => default
def cut [Inhabited α] (cs : List Str) (r : List α) (ws : List Str) : List α := ws.map (valOf cs r)
/-- some of the columns, in their order -/
def among (cs ky : List Str) : List Str := cs.filter fun c => decide (c ∈ ky)
theorem valOf_map [Inhabited α] : ∀ {cs : List Str} {r : List α}, cs.Nodup → cs.length = r.length → cs.map (valOf cs r) = r
  | [], [], _, _ => rfl
  | c :: cs, v :: r, h, l => by
    rw [List.nodup_cons] at h
    have ih := valOf_map (cs := cs) (r := r) h.2 (by simpa using l)
    rw [List.map_cons]
    refine congr (congrArg List.cons (by simp [valOf])) ?_
    refine Eq.trans (List.map_congr_left fun x hx => ?_) ih
    have : x ≠ c := fun e => h.1 (e ▸ hx)
    simp [valOf, this]
  | [], _ :: _, _, l => by simp at l
  | _ :: _, [], _, l => by simp at l
theorem cut_all [Inhabited α] {cs : List Str} {r : List α} (h : cs.Nodup) (l : cs.length = r.length) : cut cs r cs = r := valOf_map h l
/-- the same, walked over pairs -/
theorem zip_cut [Inhabited α] {cs : List Str} {r : List α} (h : cs.Nodup) (l : cs.length = r.length) (p : Str → Bool) : ((cs.zip r).filter fun q => p q.1).map (·.2) = cut cs r (cs.filter p) := by
  have e := valOf_map h l
  have key : ∀ (ds : List Str) (f : Str → α), ((ds.zip (ds.map f)).filter fun q => p q.1).map (·.2) = (ds.filter p).map f := fun ds f => by
    induction ds with
    | nil => rfl
    | cons d ds ih =>
      rw [List.map_cons, List.zip_cons_cons, List.filter_cons, List.filter_cons]
      cases p d <;> simp [ih]
  have k := key cs (valOf cs r)
  rw [e] at k
  exact k
theorem valOf_at [Inhabited α] : ∀ {cs : List Str} {r : List α} {i : Nat} {c : Str}, cs.Nodup → cs[i]? = some c → ∀ {v : α}, r[i]? = some v → valOf cs r c = v
  | d :: cs, u :: r, 0, c, h, e, v, g => by
    simp only [List.getElem?_cons_zero, Option.some.injEq] at e g
    subst e g
    simp [valOf]
  | d :: cs, u :: r, i + 1, c, h, e, v, g => by
    rw [List.nodup_cons] at h
    simp only [List.getElem?_cons_succ] at e g
    have : c ≠ d := fun q => h.1 (q ▸ List.mem_of_getElem? e)
    simp only [valOf, this, if_false]
    exact valOf_at h.2 e g
  | [], _, _, _, _, e, _, _ => by simp at e
  | _ :: _, [], _, _, _, _, _, g => by simp at g
theorem idxOf_at {cs : List Str} {c : Str} (h : c ∈ cs) : ∃ i : Nat, cs[i]? = some c ∧ ∀ j : Nat, j < i → cs[j]? ≠ some c := by
  induction cs with
  | nil => cases h
  | cons d cs ih =>
    by_cases e : d = c
    · exact ⟨0, by simp [e], fun j hj => absurd hj (Nat.not_lt_zero _)⟩
    · have h' : c ∈ cs := by
        rcases List.mem_cons.mp h with h | h
        · exact absurd h.symm e
        · exact h
      obtain ⟨i, h1, h2⟩ := ih h'
      refine ⟨i + 1, by simpa using h1, fun j hj => ?_⟩
      cases j with
      | zero => simpa using e
      | succ j => simpa using h2 j (by omega)
/-- a row with None at a key column -/
theorem none_in_key {cs ky : List Str} {r : List (Option Int)} {i : Nat} {c : Str} (h : cs.Nodup) (l : cs.length = r.length) (e : cs[i]? = some c) (hc : c ∈ ky) : none ∈ cut cs (r.set i none) (among cs ky) := by
  have hi : i < cs.length := (List.getElem?_eq_some_iff.mp e).1
  have v := valOf_at (r := r.set i none) h e (v := none) (by rw [List.getElem?_set_self (by omega)])
  refine List.mem_map.mpr ⟨c, ?_, v⟩
  exact List.mem_filter.mpr ⟨List.mem_of_getElem? e, by simpa using hc⟩
theorem set_cut {β : Type} (l : List β) (i : Nat) (x : β) (h : i < l.length) : l.take i ++ [x] ++ l.drop (i + 1) = l.set i x := by
  rw [List.set_eq_take_append_cons_drop, if_pos h]
  simp
theorem perm_of_sub {β : Type} [BEq β] [LawfulBEq β] : ∀ (l xs : List β), l.Nodup → l ⊆ xs → xs.length ≤ l.length → xs.Perm l
  | [], xs, _, _, h => by
    have : xs = [] := List.length_eq_zero_iff.mp (by simpa using h)
    subst this
    exact .refl _
  | a :: l, xs, hn, hs, h => by
    rw [List.nodup_cons] at hn
    have ha : a ∈ xs := hs (List.mem_cons_self ..)
    have p := List.perm_cons_erase ha
    have h2 : l ⊆ xs.erase a := fun x hx => by
      have : x ≠ a := fun e => hn.1 (e ▸ hx)
      rw [List.mem_erase_of_ne this]
      exact hs (List.mem_cons_of_mem _ hx)
    have h3 : (xs.erase a).length ≤ l.length := by
      rw [List.length_erase_of_mem ha]
      simp only [List.length_cons] at h
      omega
    exact p.trans ((perm_of_sub l (xs.erase a) hn.2 h2 h3).cons a)
end Tb
end
section
set_option Elab.async false
set_option linter.all false
set_option maxRecDepth 100000
namespace Lw
open PySem Ir Tb
/-! names.py, tables.py: names, values, tables -/
def oi : Option Int → D
  | none => .non
  | some i => .int i
theorem oi_bel (n : Nat) (o : Option Int) : bel n (oi o) = true := by cases o <;> simp only [oi, bel]
theorem ois_bel (n : Nat) : ∀ r : List (Option Int), bels n (r.map oi) = true
  | [] => rfl
  | k :: ks => by simp only [List.map_cons, bels, oi_bel, ois_bel n ks, Bool.and_self]
theorem isNon_oi (o : Option Int) : isNon (oi o) = o.isNone := by cases o <;> rfl
theorem strs_bel (n : Nat) : ∀ xs : List Str, bels n (xs.map D.str) = true
  | [] => rfl
  | x :: xs => by simp only [List.map_cons, bels, bel, strs_bel n xs, Bool.and_self]
theorem o_isi {s : Sto} {T : Tab} {d : D} {n : String} {b : Bool} {Q : D → Sto → Prop} (h : ((tvD s d).bind fun t => kitD T t (.ty n)) = some b) : @wpo (apn T .isi s [d, .ty n]) Q = Q (.bl b) s := by
  have e : apn T .isi s [d, .ty n] = (tvD s d).bind fun t => (kitD T t (.ty n)).bind fun b => ret s (.bl b) := rfl
  rw [e]
  cases ht : tvD s d with
  | none => rw [ht] at h; cases h
  | some t =>
    rw [ht] at h
    have h : kitD T t (.ty n) = some b := h
    show @wpo ((kitD T t (.ty n)).bind fun b => ret s (.bl b)) Q = _
    rw [h]
    rfl
/-- a datum of texts: a tuple or a list -/
def SqC (d : D) (xs : List Str) : Prop := d = .tup (xs.map .str) ∨ d = .lst (xs.map .str)
theorem SqC.seq {d : D} {xs : List Str} (h : SqC d xs) (s : Sto) : seqOf s d = some (xs.map .str) := by rcases h with rfl | rfl <;> rfl
theorem SqC.fix {d : D} {xs : List Str} (h : SqC d xs) : Itb.fix (.seq d) (xs.map .str) := fun s => by rcases h with rfl | rfl <;> rfl
theorem SqC.len {d : D} {xs : List Str} (h : SqC d xs) {s : Sto} {T : Tab} {Q : D → Sto → Prop} : @wpo (apn T .len s [d]) Q = Q (.int (xs.length : Int)) s := by
  rcases h with rfl | rfl
  · rw [o_lenT, List.length_map]
  · rw [o_lenL, List.length_map]
theorem in_strsL {s : Sto} {a : Str} {xs : List Str} (ha : PyData.strOk a = true) (hx : ∀ x ∈ xs, PyData.strOk x = true) : apIn s (.str a) (.lst (xs.map D.str)) = some (decide (a ∈ xs)) := by
  have h1 : pdL s (.str a) = some (.str a) := by
    obtain ⟨p, e1, e2⟩ := pdL_of (s := s) (d := .str a) (n := 0) (okd_str ha) (by decide)
    simp only [look, pd, Option.some.injEq] at e2
    rw [e1, e2]
  have h2 : pdL s (.lst (xs.map D.str)) = some (.list (xs.map PyData.str)) := by
    obtain ⟨p, e1, e2⟩ := pdL_of (s := s) (d := .lst (xs.map D.str)) (n := 1) (okd_lst (okds_map fun x h => okd_str (hx x h))) (by decide)
    simp only [look, pd, pds_strs, Option.map_some, Option.some.injEq] at e2
    rw [e1, e2]
  show (match pdL s (.str a), pdL s (.lst (xs.map D.str)) with
    | some p, some (.list qs) => some (qs.any fun z => PyData.eqv z p)
    | some p, some (.tuple qs) => if flatP p && qs.all flatP then some (qs.any fun z => PyData.eqv z p) else none
    | _, _ => none) = _
  rw [h1, h2]
  show some ((xs.map PyData.str).any fun z => PyData.eqv z (.str a)) = _
  rw [List.any_map]
  congr 1
  rw [Bool.eq_iff_iff, List.any_eq_true, decide_eq_true_eq]
  constructor
  · rintro ⟨x, hx, e⟩
    rw [show ((fun z => PyData.eqv z (.str a)) ∘ PyData.str) x = PyData.eqv (.str x) (.str a) from rfl, eqv_str, decide_eq_true_eq] at e
    rw [← e]; exact hx
  · intro h
    refine ⟨a, h, ?_⟩
    rw [show ((fun z => PyData.eqv z (.str a)) ∘ PyData.str) a = PyData.eqv (.str a) (.str a) from rfl, eqv_str, decide_eq_true_eq]
abbrev allOk (xs : List Str) : Prop := ∀ x ∈ xs, PyData.strOk x = true
theorem SqC.in_ {d : D} {xs : List Str} (h : SqC d xs) (hx : allOk xs) {a : Str} (ha : PyData.strOk a = true) {s : Sto} {Q : D → Sto → Prop} : @wpo (ap2 .in_ s (.str a) d) Q = Q (.bl (decide (a ∈ xs))) s := by
  rcases h with rfl | rfl
  · exact o_inS ha hx
  · show @wpo ((apIn s (.str a) (.lst (xs.map D.str))).bind fun b => ret s (.bl b)) Q = _
    rw [in_strsL ha hx]
    rfl
theorem SqC.nin {d : D} {xs : List Str} (h : SqC d xs) (hx : allOk xs) {a : Str} (ha : PyData.strOk a = true) {s : Sto} {Q : D → Sto → Prop} : @wpo (ap2 .notin s (.str a) d) Q = Q (.bl (!decide (a ∈ xs))) s := by
  rcases h with rfl | rfl
  · exact o_ninS ha hx
  · show @wpo ((apIn s (.str a) (.lst (xs.map D.str))).bind fun b => ret s (.bl (!b))) Q = _
    rw [in_strsL ha hx]
    rfl
/-! names -/
abbrev letters : Str := "abcdefghijklmnopqrstuvwxyz"
def ltr (ch : Nat) : Bool := !(Builtin.Str.occurrences letters ⟨#[ch]⟩ 0 letters.length 1).isEmpty
def isName (x : Str) : Bool := decide (1 ≤ x.length) && decide (x.length ≤ 8) && x.cps.toList.all ltr
theorem in_letters {s : Sto} {ch : Nat} {Q : D → Sto → Prop} : @wpo (ap2 .in_ s (.str ⟨#[ch]⟩) (.str letters)) Q = Q (.bl (ltr ch)) s := rfl
theorem all_bl {s : Sto} {T : Tab} {bs : List Bool} {Q : D → Sto → Prop} : @wpo (apn T .all s [.lst (bs.map .bl)]) Q = Q (.bl (bs.all id)) s := by
  have e : boolsOf (bs.map D.bl) = some bs := by
    induction bs with
    | nil => rfl
    | cons b bs ih => simp only [List.map_cons, boolsOf, ih, Option.map_some]
  show @wpo (apBools s (.lst (bs.map D.bl)) fun bs => bs.all id) Q = _
  unfold apBools
  simp only [look, e]
  rfl
theorem bls_bel (n : Nat) : ∀ bs : List Bool, bels n (bs.map .bl) = true
  | [] => rfl
  | b :: bs => by simp only [List.map_cons, bels, bel, bls_bel n bs, Bool.and_self]
theorem filter_true {α : Type} (l : List α) : l.filter (fun _ => true) = l := by simp
local macro_rules
  | `(tactic| walk_at "w") => `(tactic| simp only [↓ws_nil, ↓ws_pass, ↓ws_brk, ↓ws_cnt, ↓ws_retN, ↓ws_ret, ↓ws_expr, ↓ws_set, ↓ws_asg, ↓ws_if, ↓ws_sub, ↓ws_fld, ↓ws_dput, ↓ws_par, ↓ws_par3, ↓ws_for, ↓ws_while,
      ↓wl_nil, ↓wl_cons, ↓wx_var, ↓wx_con, ↓wx_glb, ↓wx_bty, ↓wx_bin, ↓wx_cmp, ↓wx_ix, ↓wx_bt, ↓wx_tup, ↓wx_lst, ↓wx_neg, ↓wx_meth, ↓wx_fld, ↓wx_call, ↓wx_own, ↓wx_cmt, ↓wx_make, ↓wx_mkv, ↓wx_cval, ↓wx_opk, ↓wx_inv, ↓wx_ink, ↓wx_eqk, ↓wx_bok, ↓wx_srt, ↓wx_sset, ↓wx_lset, ↓wx_rpr, ↓wx_dcpy, ↓wx_dlst, ↓wx_dpr, ↓wx_rvs, ↓wx_dx, ↓wx_din, ↓wx_dqe, ↓wx_rp, ↓wx_callo, ↓wx_kfn, ↓wx_kmake, ↓wx_kown, ↓wx_kcmt, ↓wx_kmkv, ↓wag_lone, ↓wag_nil, ↓wag_f, ↓wag_tt, ↓wsq_nil, ↓wsq_f, ↓wsq_t, dropE_zero, dropE_succ, List.length_nil, ↓sqK_some, ↓seqO_lst, ↓seqO_tup, ↓seqO_klst, ↓wx_bmx, ↓wx_dzp, ↓wx_dct, ↓wx_dsp, ↓txK_some, ↓wx_slc_tt, ↓wx_slc_ft, ↓wx_slc_tf, ↓wx_slc_ff, ↓wx_and, ↓wx_or, ↓wx_not, ↓wx_ite, ↓wx_chain, ↓wx_comp,
      ↓wt_yes, ↓wt_var, ↓wt_con, ↓wt_glb, ↓wt_cmp, ↓wt_ink, ↓wt_eqk, ↓wt_bok, ↓wt_din, ↓wt_dqe, ↓wt_dx, ↓wt_callo, ↓wt_chain, ↓wt_bt, ↓wt_call, ↓wt_own, ↓wt_cmt, ↓wt_fld, ↓wt_ix, ↓wt_and, ↓wt_or, ↓wt_not, ↓wi_seq, ↓wi_rng1, ↓wi_rng2, ↓wi_rng3, ↓wi_enum, ↓wi_zip,
      ↓atE_zero, ↓atE_succ, ↓br_true, ↓br_false, ↓br_not, ↓sat_ok, ↓blK_bl, ↓intK_int, ↓truK_some, ↓stoK_some, ↓putK_one, ↓putK_two, ↓putK_three, ↓twoK_two, ↓threeK_three, ↓boolK_t, ↓boolK_f,
      ↓o_add, ↓o_sub, ↓o_mul, ↓o_fdiv, ↓o_mod, ↓o_pow, ↓o_lt, ↓o_le, ↓o_gt, ↓o_ge, ↓o_eq, ↓o_ne, ↓o_isn, ↓o_notn, ↓o_isb, ↓o_notb, ↓o_tup0, ↓o_lst0, ↓o_lstm0, ↓o_tup, ↓o_lst, ↓o_lstm, ↓sz_nil, ↓sz_1, ↓sz_2, ↓sz_3, ↓sz_4, ↓sz_5, ↓sz_6, ↓o_neg, ↓o_abs, ↓o_toInt, ↓o_toIntb, ↓o_boolb, ↓o_boolT, ↓o_boolL, ↓o_max2, ↓o_min2, ↓o_lenL, ↓o_lenT, ↓o_lenK, ↓o_tupleL, ↓o_tupleT, ↓o_listL, ↓o_listT, ↓o_listmL, ↓o_listmT, ↓o_addT, ↓o_addL, ↓o_ixL, ↓o_ixT, ↓wpo_some, ↓wpo_ret, ↓wpo_bind,
      ix_0, ix_1, ix_2, tru_bl, tru_int, tru_non, tru_tup, tru_lst, isNon_int, isNon_non, isNon_tup,
      Option.isNone_none, Option.isNone_some, decide_true, decide_false, Int.reduceToNat, Int.reducePow, ↓nxt_nx, ↓nxt_rt, ↓nxt_bk, ↓nxt_ct, ↓nxt_ex, ↓lop_nx, ↓lop_rt, ↓lop_bk, ↓lop_ct, ↓lop_ex, ↓endF_nx, ↓endF_rt, ↓endT_nx, ↓endT_rt, ↓ix_pen, ↓st_pen1, ↓st_pen2, ↓isNon_oi, startE, wipeE, List.map_cons, List.map_nil, List.replicate, List.length_cons, List.length_nil, List.cons_append, List.nil_append, List.set_cons_zero, List.set_cons_succ, Nat.reduceAdd, Nat.reduceSub, true_and, and_true, ↓reduceIte, Bool.false_eq_true, Bool.not_true, Bool.not_false])
  | `(tactic| walk_at "v") => `(tactic| simp only [↓ws_nil, ↓ws_pass, ↓ws_brk, ↓ws_cnt, ↓ws_retN, ↓ws_ret, ↓ws_expr, ↓ws_set, ↓ws_asg, ↓ws_sub, ↓ws_fld, ↓ws_dput, ↓ws_par, ↓ws_par3, ↓ws_for, ↓ws_while,
      ↓wl_nil, ↓wl_cons, ↓wx_var, ↓wx_con, ↓wx_glb, ↓wx_bty, ↓wx_bin, ↓wx_cmp, ↓wx_ix, ↓wx_bt, ↓wx_tup, ↓wx_lst, ↓wx_neg, ↓wx_meth, ↓wx_fld, ↓wx_call, ↓wx_own, ↓wx_cmt, ↓wx_make, ↓wx_mkv, ↓wx_cval, ↓wx_opk, ↓wx_inv, ↓wx_ink, ↓wx_eqk, ↓wx_bok, ↓wx_srt, ↓wx_sset, ↓wx_lset, ↓wx_rpr, ↓wx_dcpy, ↓wx_dlst, ↓wx_dpr, ↓wx_rvs, ↓wx_dx, ↓wx_din, ↓wx_dqe, ↓wx_rp, ↓wx_callo, ↓wx_kfn, ↓wx_kmake, ↓wx_kown, ↓wx_kcmt, ↓wx_kmkv, ↓wag_lone, ↓wag_nil, ↓wag_f, ↓wag_tt, ↓wsq_nil, ↓wsq_f, ↓wsq_t, dropE_zero, dropE_succ, List.length_nil, ↓sqK_some, ↓seqO_lst, ↓seqO_tup, ↓seqO_klst, ↓wx_bmx, ↓wx_dzp, ↓wx_dct, ↓wx_dsp, ↓txK_some, ↓wx_slc_tt, ↓wx_slc_ft, ↓wx_slc_tf, ↓wx_slc_ff, ↓wx_and, ↓wx_or, ↓wx_not, ↓wx_ite, ↓wx_chain, ↓wx_comp,
      ↓wt_yes, ↓wt_var, ↓wt_con, ↓wt_glb, ↓wt_cmp, ↓wt_ink, ↓wt_eqk, ↓wt_bok, ↓wt_din, ↓wt_dqe, ↓wt_dx, ↓wt_callo, ↓wt_chain, ↓wt_bt, ↓wt_call, ↓wt_own, ↓wt_cmt, ↓wt_fld, ↓wt_ix, ↓wt_and, ↓wt_or, ↓wt_not, ↓wi_seq, ↓wi_rng1, ↓wi_rng2, ↓wi_rng3, ↓wi_enum, ↓wi_zip,
      ↓atE_zero, ↓atE_succ, ↓br_true, ↓br_false, ↓br_not, ↓sat_ok, ↓blK_bl, ↓intK_int, ↓truK_some, ↓stoK_some, ↓putK_one, ↓putK_two, ↓putK_three, ↓twoK_two, ↓threeK_three, ↓boolK_t, ↓boolK_f,
      ↓o_add, ↓o_sub, ↓o_mul, ↓o_fdiv, ↓o_mod, ↓o_pow, ↓o_lt, ↓o_le, ↓o_gt, ↓o_ge, ↓o_eq, ↓o_ne, ↓o_isn, ↓o_notn, ↓o_isb, ↓o_notb, ↓o_tup0, ↓o_lst0, ↓o_lstm0, ↓o_tup, ↓o_lst, ↓o_lstm, ↓sz_nil, ↓sz_1, ↓sz_2, ↓sz_3, ↓sz_4, ↓sz_5, ↓sz_6, ↓o_neg, ↓o_abs, ↓o_toInt, ↓o_toIntb, ↓o_boolb, ↓o_boolT, ↓o_boolL, ↓o_max2, ↓o_min2, ↓o_lenL, ↓o_lenT, ↓o_lenK, ↓o_tupleL, ↓o_tupleT, ↓o_listL, ↓o_listT, ↓o_listmL, ↓o_listmT, ↓o_addT, ↓o_addL, ↓o_ixL, ↓o_ixT, ↓wpo_some, ↓wpo_ret, ↓wpo_bind,
      ix_0, ix_1, ix_2, tru_bl, tru_int, tru_non, tru_tup, tru_lst, isNon_int, isNon_non, isNon_tup,
      Option.isNone_none, Option.isNone_some, decide_true, decide_false, Int.reduceToNat, Int.reducePow, ↓nxt_nx, ↓nxt_rt, ↓nxt_bk, ↓nxt_ct, ↓nxt_ex, ↓lop_nx, ↓lop_rt, ↓lop_bk, ↓lop_ct, ↓lop_ex, ↓endF_nx, ↓endF_rt, ↓endT_nx, ↓endT_rt, ↓ix_pen, ↓st_pen1, ↓st_pen2, ↓isNon_oi, startE, wipeE, List.map_cons, List.map_nil, List.replicate, List.length_cons, List.length_nil, List.cons_append, List.nil_append, List.set_cons_zero, List.set_cons_succ, Nat.reduceAdd, Nat.reduceSub, true_and, and_true, ↓reduceIte, Bool.false_eq_true, Bool.not_true, Bool.not_false])
variable {fu k : Nat} {s : Sto} {Q : D → Sto → Prop} {X : Xq}
theorem o_lenS {x : Str} {T : Tab} (h : x.length ≤ sizeLine) : @wpo (apn T .len s [.str x]) Q = Q (.int (x.length : Int)) s := by
  show @wpo (if x.length ≤ sizeLine then ret s (.int x.length) else none) Q = _
  rw [if_pos h]
  rfl
theorem distinct_iff (xs : List Str) : decide (((sT xs).length : Int) = (xs.length : Int)) = decide xs.Nodup := by
  rw [Bool.eq_iff_iff, decide_eq_true_eq, decide_eq_true_eq]
  constructor
  · intro h
    have hp := perm_of_sub (sT xs) xs (pw_nodup (sT_pw xs)) (fun x hx => (sT_mem x xs).mp hx) (by omega)
    exact hp.nodup_iff.mpr (pw_nodup (sT_pw xs))
  · intro h
    have h1 := h.length_le_of_subset fun x hx => (sT_mem x xs).mpr hx
    have h2 := sT_len xs
    omega
theorem lc_true {G : Gt} {M : Gm} {α : Type} {b : Itb} {t : Tg} {own : List Nat} {e : E} {env : Ev} {Q : D → Sto → Prop} {X : Xq} {s : Sto} (f : α → D) (l : List α) (g : α → D) (hb : b.fix (l.map f)) (hl : l.length ≤ sizeLine)
    (step : ∀ a ∈ l, ∀ acc, @putK t (wipeE env own) (f a) fun env1 => wx G M e env1 (s ++ [.lst acc]) (fun d s2 => d = g a ∧ s2 = s ++ [.lst acc]) noX)
    (hg : ∀ a ∈ l, bel s.length (g a) = true) (fin : Q (.lst (l.map g)) s) : @lc G M false b t own .yes e env s Q X := by
  refine lc_pure f l (fun _ => true) g hb hl (fun a ha acc => ?_) hg (by rw [filter_true]; exact fin)
  have z := step a ha acc
  unfold putK at z ⊢
  cases hp : t.put (wipeE env own) (f a) with
  | none => rw [hp] at z; exact z
  | some env1 =>
    rw [hp] at z
    exact ⟨⟨rfl, rfl⟩, fun _ => z⟩
theorem signs_map (x : Str) : signs x = x.cps.toList.map fun ch => .str ⟨#[ch]⟩ := rfl
theorem f_is_name_ok {x : Str} (hl : x.length ≤ sizeLine) (hq : Q (.bl (isName x)) s) : @cl L.G (rawL L.G P fu (k + 2)) i_is_name [.str x] s Q X := by
  refine fn_cl rfl rfl rfl ?_
  unfold b_is_name
  try walk_at "w"
  rw [o_isi rfl]
  try walk_at "w"
  rw [o_lenS hl]
  try walk_at "w"
  unfold isName at hq
  refine br_dec (fun h1 => ?_) fun h1 => ?_
  · try walk_at "w"
    refine br_dec (fun h2 => ?_) fun h2 => ?_
    · try walk_at "w"
      refine ⟨rfl, ?_⟩
      refine lc_true (fun ch : Nat => D.str ⟨#[ch]⟩) x.cps.toList (fun ch => .bl (ltr ch)) (fun s => rfl) (by simpa [Str.length] using hl) (fun a ha acc => ?_) (fun a ha => by simp only [bel]) ?_
      · try walk_at "w"
        rw [in_letters]
        exact ⟨rfl, rfl⟩
      · try walk_at "w"
        have e : x.cps.toList.map (fun ch => D.bl (ltr ch)) = (x.cps.toList.map ltr).map .bl := by rw [List.map_map]; rfl
        rw [e, all_bl]
        try walk_at "w"
        rw [lv_same (by simp only [bel])]
        rw [decide_eq_true (show 1 ≤ x.length by omega), decide_eq_true (show x.length ≤ 8 by omega), Bool.true_and, Bool.true_and] at hq
        rw [List.all_map]
        exact hq
    · try walk_at "w"
      rw [lv_same (by simp only [bel]), decide_eq_false h2]
      rw [decide_eq_false (show ¬ x.length ≤ 8 by omega), Bool.and_false, Bool.false_and] at hq
      exact hq
  · try walk_at "w"
    rw [lv_same (by simp only [bel])]
    rw [decide_eq_false (show ¬ 1 ≤ x.length by omega), Bool.false_and, Bool.false_and] at hq
    exact hq
theorem f_are_distinct_ok {d : D} {xs : List Str} (h : SqC d xs) (hl : xs.length ≤ 1000) (hq : Q (.bl (decide xs.Nodup)) s) : @cl L.G (rawL L.G P fu (k + 2)) i_are_distinct [d] s Q X := by
  refine fn_cl rfl rfl rfl ?_
  unfold b_are_distinct
  try walk_at "w"
  rw [txtsOf_of (h.seq s) hl]
  try walk_at "w"
  rw [h.len]
  try walk_at "w"
  rw [distinct_iff, lv_same (by simp only [bel])]
  exact hq
theorem f_are_among_ok {d e : D} {xs cs : List Str} (h : SqC d xs) (he : SqC e cs) (hx : allOk xs) (hc : allOk cs) (hl : xs.length ≤ 1000) (hq : Q (.bl (decide xs.Nodup && xs.all fun x => decide (x ∈ cs))) s) : @cl L.G (rawL L.G P fu (k + 3)) i_are_among [d, e] s Q X := by
  refine fn_cl rfl rfl rfl ?_
  unfold b_are_among
  try walk_at "w"
  refine f_are_distinct_ok h hl ?_
  try walk_at "w"
  refine br_dec (fun hn => ?_) fun hn => ?_
  · try walk_at "w"
    refine ⟨by rcases h with rfl | rfl <;> rfl, ?_⟩
    refine lc_true D.str xs (fun x => .bl (decide (x ∈ cs))) h.fix (Nat.le_trans hl (by decide)) (fun a ha acc => ?_) (fun a ha => by simp only [bel]) ?_
    · try walk_at "w"
      rw [he.in_ hc (hx a ha)]
      exact ⟨rfl, rfl⟩
    · try walk_at "w"
      have e : xs.map (fun x => D.bl (decide (x ∈ cs))) = (xs.map fun x => decide (x ∈ cs)).map .bl := by rw [List.map_map]; rfl
      rw [e, all_bl]
      try walk_at "w"
      rw [lv_same (by simp only [bel]), List.all_map]
      rw [decide_eq_true hn, Bool.true_and] at hq
      exact hq
  · simp only [endF_rt]
    rw [lv_same (by simp only [bel])]
    rw [decide_eq_false hn] at hq ⊢
    exact hq
/-! values -/
def isV : D → Bool
  | .non => true
  | .int i => decide (i.natAbs < 10 ^ 30)
  | _ => false
/-- what a value may be -/
def Sim (d : D) : Prop := match d with
  | .non => True | .bl _ => True | .int _ => True | .str _ => True | .tup _ => True | .lst _ => True | .dic _ _ => True
  | _ => False
def isI : D → Bool
  | .int _ => true
  | _ => false
def kI : D → Bool
  | .int _ => true
  | .bl _ => true
  | _ => false
def kB : D → Bool
  | .bl _ => true
  | _ => false
def kT : D → Bool
  | .tup _ => true
  | _ => false
def kS : D → Bool
  | .str _ => true
  | _ => false
theorem isi_i {d : D} (h : Sim d) {s : Sto} {T : Tab} {Q : D → Sto → Prop} : @wpo (apn T .isi s [d, .ty "int"]) Q = Q (.bl (kI d)) s := o_isi (by cases d <;> first | exact h.elim | rfl)
theorem isi_b {d : D} (h : Sim d) {s : Sto} {T : Tab} {Q : D → Sto → Prop} : @wpo (apn T .isi s [d, .ty "bool"]) Q = Q (.bl (kB d)) s := o_isi (by cases d <;> first | exact h.elim | rfl)
theorem isi_t {d : D} (h : Sim d) {s : Sto} {T : Tab} {Q : D → Sto → Prop} : @wpo (apn T .isi s [d, .ty "tuple"]) Q = Q (.bl (kT d)) s := o_isi (by cases d <;> first | exact h.elim | rfl)
theorem isi_s {d : D} (h : Sim d) {s : Sto} {T : Tab} {Q : D → Sto → Prop} : @wpo (apn T .isi s [d, .ty "str"]) Q = Q (.bl (kS d)) s := o_isi (by cases d <;> first | exact h.elim | rfl)
theorem f_is_integer_ok {d : D} (h : Sim d) (hq : Q (.bl (isI d)) s) : @cl L.G (rawL L.G P fu (k + 2)) i_is_integer [d] s Q X := by
  refine fn_cl rfl rfl rfl ?_
  unfold b_is_integer
  try walk_at "w"
  rw [isi_i h]
  try walk_at "w"
  refine br_bool (fun hk => ?_) fun hk => ?_
  · try walk_at "w"
    rw [isi_b h]
    try walk_at "w"
    rw [lv_same (by simp only [bel])]
    have : isI d = !kB d := by cases d <;> first | rfl | cases hk
    rw [← this]
    exact hq
  · try walk_at "w"
    rw [lv_same (by simp only [bel])]
    have : isI d = kI d := by rw [hk]; cases d <;> first | rfl | cases hk
    rw [← this]
    exact hq
theorem f_is_number_ok {d : D} (h : Sim d) (hq : Q (.bl (isI d && isV d)) s) : @cl L.G (rawL L.G P fu (k + 3)) i_is_number [d] s Q X := by
  refine fn_cl rfl rfl rfl ?_
  unfold b_is_number
  try walk_at "w"
  refine f_is_integer_ok h ?_
  try walk_at "w"
  refine br_bool (fun hi => ?_) fun hi => ?_
  · cases d <;> first | (cases hi; done) | skip
    try walk_at "w"
    rw [lv_same (by simp only [bel])]
    rename_i i
    have e : decide ((if i < 0 then -i else i) < 1000000000000000000000000000000) = (isI (.int i) && isV (.int i)) := by
      simp only [isI, isV, Bool.true_and]
      rw [Bool.eq_iff_iff, decide_eq_true_eq, decide_eq_true_eq]
      split <;> omega
    rw [e]
    exact hq
  · try walk_at "w"
    rw [lv_same (by simp only [bel])]
    rw [hi] at hq ⊢
    exact hq
theorem f_is_value_ok {d : D} (h : Sim d) (hq : Q (.bl (isV d)) s) : @cl L.G (rawL L.G P fu (k + 4)) i_is_value [d] s Q X := by
  refine fn_cl rfl rfl rfl ?_
  unfold b_is_value
  try walk_at "w"
  refine br_bool (fun hn => ?_) fun hn => ?_
  · try walk_at "w"
    rw [lv_same (by simp only [bel])]
    have : isV d = isNon d := by rw [hn]; cases d <;> first | rfl | cases hn
    rw [← this]
    exact hq
  · try walk_at "w"
    refine f_is_number_ok h ?_
    try walk_at "w"
    rw [lv_same (by simp only [bel])]
    have : isV d = (isI d && isV d) := by cases d <;> first | rfl | cases hn
    rw [← this]
    exact hq
/-! tables -/
structure Tbl where
  cs : List Str
  ks : List Str
  fx : List Str
  un : List Str
  ru : Bool
def tbl (t : Tbl) : D := .ins kc_Table ["columns", "key", "fixed", "unique", "reuse"] [.tup (t.cs.map .str), .tup (t.ks.map .str), .tup (t.fx.map .str), .tup (t.un.map .str), .bl t.ru]
theorem tbl_bel (n : Nat) (t : Tbl) : bel n (tbl t) = true := by simp only [tbl, bel, bels, strs_bel, Bool.and_self]
theorem fld_cs {s : Sto} {t : Tbl} : fldOf s (tbl t) L.G.F "columns" = some (.tup (t.cs.map .str)) := rfl
theorem fld_ks {s : Sto} {t : Tbl} : fldOf s (tbl t) L.G.F "key" = some (.tup (t.ks.map .str)) := rfl
theorem is_cut {s : Sto} {t : Tbl} : isIns s (tbl t) kc_Table "cut" = true := rfl
theorem is_key_of {s : Sto} {t : Tbl} : isIns s (tbl t) kc_Table "key_of" = true := rfl
theorem is_is_row {s : Sto} {t : Tbl} : isIns s (tbl t) kc_Table "is_row" = true := rfl
theorem cls_tbl : isCls (.cls kc_Table) kc_Table = true := rfl
end Lw
end
section
set_option Elab.async false
set_option linter.all false
set_option maxRecDepth 100000
namespace Lw
open PySem Ir Tb
local macro_rules
  | `(tactic| walk_at "w") => `(tactic| simp only [↓ws_nil, ↓ws_pass, ↓ws_brk, ↓ws_cnt, ↓ws_retN, ↓ws_ret, ↓ws_expr, ↓ws_set, ↓ws_asg, ↓ws_if, ↓ws_sub, ↓ws_fld, ↓ws_dput, ↓ws_par, ↓ws_par3, ↓ws_for, ↓ws_while,
      ↓wl_nil, ↓wl_cons, ↓wx_var, ↓wx_con, ↓wx_glb, ↓wx_bty, ↓wx_bin, ↓wx_cmp, ↓wx_ix, ↓wx_bt, ↓wx_tup, ↓wx_lst, ↓wx_neg, ↓wx_meth, ↓wx_fld, ↓wx_call, ↓wx_own, ↓wx_cmt, ↓wx_make, ↓wx_mkv, ↓wx_cval, ↓wx_opk, ↓wx_inv, ↓wx_ink, ↓wx_eqk, ↓wx_bok, ↓wx_srt, ↓wx_sset, ↓wx_lset, ↓wx_rpr, ↓wx_dcpy, ↓wx_dlst, ↓wx_dpr, ↓wx_rvs, ↓wx_dx, ↓wx_din, ↓wx_dqe, ↓wx_rp, ↓wx_callo, ↓wx_kfn, ↓wx_kmake, ↓wx_kown, ↓wx_kcmt, ↓wx_kmkv, ↓wag_lone, ↓wag_nil, ↓wag_f, ↓wag_tt, ↓wsq_nil, ↓wsq_f, ↓wsq_t, dropE_zero, dropE_succ, List.length_nil, ↓sqK_some, ↓seqO_lst, ↓seqO_tup, ↓seqO_klst, ↓wx_bmx, ↓wx_dzp, ↓wx_dct, ↓wx_dsp, ↓txK_some, ↓wx_slc_tt, ↓wx_slc_ft, ↓wx_slc_tf, ↓wx_slc_ff, ↓wx_and, ↓wx_or, ↓wx_not, ↓wx_ite, ↓wx_chain, ↓wx_comp,
      ↓wt_yes, ↓wt_var, ↓wt_con, ↓wt_glb, ↓wt_cmp, ↓wt_ink, ↓wt_eqk, ↓wt_bok, ↓wt_din, ↓wt_dqe, ↓wt_dx, ↓wt_callo, ↓wt_chain, ↓wt_bt, ↓wt_call, ↓wt_own, ↓wt_cmt, ↓wt_fld, ↓wt_ix, ↓wt_and, ↓wt_or, ↓wt_not, ↓wi_seq, ↓wi_rng1, ↓wi_rng2, ↓wi_rng3, ↓wi_enum, ↓wi_zip,
      ↓atE_zero, ↓atE_succ, ↓br_true, ↓br_false, ↓br_not, ↓sat_ok, ↓blK_bl, ↓intK_int, ↓truK_some, ↓stoK_some, ↓putK_one, ↓putK_two, ↓putK_three, ↓twoK_two, ↓threeK_three, ↓boolK_t, ↓boolK_f,
      ↓o_add, ↓o_sub, ↓o_mul, ↓o_fdiv, ↓o_mod, ↓o_pow, ↓o_lt, ↓o_le, ↓o_gt, ↓o_ge, ↓o_eq, ↓o_ne, ↓o_isn, ↓o_notn, ↓o_isb, ↓o_notb, ↓o_tup0, ↓o_lst0, ↓o_lstm0, ↓o_tup, ↓o_lst, ↓o_lstm, ↓sz_nil, ↓sz_1, ↓sz_2, ↓sz_3, ↓sz_4, ↓sz_5, ↓sz_6, ↓o_neg, ↓o_abs, ↓o_toInt, ↓o_toIntb, ↓o_boolb, ↓o_boolT, ↓o_boolL, ↓o_max2, ↓o_min2, ↓o_lenL, ↓o_lenT, ↓o_lenK, ↓o_tupleL, ↓o_tupleT, ↓o_listL, ↓o_listT, ↓o_listmL, ↓o_listmT, ↓o_addT, ↓o_addL, ↓o_ixL, ↓o_ixT, ↓wpo_some, ↓wpo_ret, ↓wpo_bind,
      ix_0, ix_1, ix_2, tru_bl, tru_int, tru_non, tru_tup, tru_lst, isNon_int, isNon_non, isNon_tup,
      Option.isNone_none, Option.isNone_some, decide_true, decide_false, Int.reduceToNat, Int.reducePow, ↓nxt_nx, ↓nxt_rt, ↓nxt_bk, ↓nxt_ct, ↓nxt_ex, ↓lop_nx, ↓lop_rt, ↓lop_bk, ↓lop_ct, ↓lop_ex, ↓endF_nx, ↓endF_rt, ↓endT_nx, ↓endT_rt, ↓ix_pen, ↓st_pen1, ↓st_pen2, ↓isNon_oi, ↓fld_cs, ↓fld_ks, ↓is_cut, ↓is_key_of, ↓is_is_row, ↓cls_tbl, startE, wipeE, List.map_cons, List.map_nil, List.replicate, List.length_cons, List.length_nil, List.cons_append, List.nil_append, List.set_cons_zero, List.set_cons_succ, Nat.reduceAdd, Nat.reduceSub, true_and, and_true, ↓reduceIte, Bool.false_eq_true, Bool.not_true, Bool.not_false])
  | `(tactic| walk_at "v") => `(tactic| simp only [↓ws_nil, ↓ws_pass, ↓ws_brk, ↓ws_cnt, ↓ws_retN, ↓ws_ret, ↓ws_expr, ↓ws_set, ↓ws_asg, ↓ws_sub, ↓ws_fld, ↓ws_dput, ↓ws_par, ↓ws_par3, ↓ws_for, ↓ws_while,
      ↓wl_nil, ↓wl_cons, ↓wx_var, ↓wx_con, ↓wx_glb, ↓wx_bty, ↓wx_bin, ↓wx_cmp, ↓wx_ix, ↓wx_bt, ↓wx_tup, ↓wx_lst, ↓wx_neg, ↓wx_meth, ↓wx_fld, ↓wx_call, ↓wx_own, ↓wx_cmt, ↓wx_make, ↓wx_mkv, ↓wx_cval, ↓wx_opk, ↓wx_inv, ↓wx_ink, ↓wx_eqk, ↓wx_bok, ↓wx_srt, ↓wx_sset, ↓wx_lset, ↓wx_rpr, ↓wx_dcpy, ↓wx_dlst, ↓wx_dpr, ↓wx_rvs, ↓wx_dx, ↓wx_din, ↓wx_dqe, ↓wx_rp, ↓wx_callo, ↓wx_kfn, ↓wx_kmake, ↓wx_kown, ↓wx_kcmt, ↓wx_kmkv, ↓wag_lone, ↓wag_nil, ↓wag_f, ↓wag_tt, ↓wsq_nil, ↓wsq_f, ↓wsq_t, dropE_zero, dropE_succ, List.length_nil, ↓sqK_some, ↓seqO_lst, ↓seqO_tup, ↓seqO_klst, ↓wx_bmx, ↓wx_dzp, ↓wx_dct, ↓wx_dsp, ↓txK_some, ↓wx_slc_tt, ↓wx_slc_ft, ↓wx_slc_tf, ↓wx_slc_ff, ↓wx_and, ↓wx_or, ↓wx_not, ↓wx_ite, ↓wx_chain, ↓wx_comp,
      ↓wt_yes, ↓wt_var, ↓wt_con, ↓wt_glb, ↓wt_cmp, ↓wt_ink, ↓wt_eqk, ↓wt_bok, ↓wt_din, ↓wt_dqe, ↓wt_dx, ↓wt_callo, ↓wt_chain, ↓wt_bt, ↓wt_call, ↓wt_own, ↓wt_cmt, ↓wt_fld, ↓wt_ix, ↓wt_and, ↓wt_or, ↓wt_not, ↓wi_seq, ↓wi_rng1, ↓wi_rng2, ↓wi_rng3, ↓wi_enum, ↓wi_zip,
      ↓atE_zero, ↓atE_succ, ↓br_true, ↓br_false, ↓br_not, ↓sat_ok, ↓blK_bl, ↓intK_int, ↓truK_some, ↓stoK_some, ↓putK_one, ↓putK_two, ↓putK_three, ↓twoK_two, ↓threeK_three, ↓boolK_t, ↓boolK_f,
      ↓o_add, ↓o_sub, ↓o_mul, ↓o_fdiv, ↓o_mod, ↓o_pow, ↓o_lt, ↓o_le, ↓o_gt, ↓o_ge, ↓o_eq, ↓o_ne, ↓o_isn, ↓o_notn, ↓o_isb, ↓o_notb, ↓o_tup0, ↓o_lst0, ↓o_lstm0, ↓o_tup, ↓o_lst, ↓o_lstm, ↓sz_nil, ↓sz_1, ↓sz_2, ↓sz_3, ↓sz_4, ↓sz_5, ↓sz_6, ↓o_neg, ↓o_abs, ↓o_toInt, ↓o_toIntb, ↓o_boolb, ↓o_boolT, ↓o_boolL, ↓o_max2, ↓o_min2, ↓o_lenL, ↓o_lenT, ↓o_lenK, ↓o_tupleL, ↓o_tupleT, ↓o_listL, ↓o_listT, ↓o_listmL, ↓o_listmT, ↓o_addT, ↓o_addL, ↓o_ixL, ↓o_ixT, ↓wpo_some, ↓wpo_ret, ↓wpo_bind,
      ix_0, ix_1, ix_2, tru_bl, tru_int, tru_non, tru_tup, tru_lst, isNon_int, isNon_non, isNon_tup,
      Option.isNone_none, Option.isNone_some, decide_true, decide_false, Int.reduceToNat, Int.reducePow, ↓nxt_nx, ↓nxt_rt, ↓nxt_bk, ↓nxt_ct, ↓nxt_ex, ↓lop_nx, ↓lop_rt, ↓lop_bk, ↓lop_ct, ↓lop_ex, ↓endF_nx, ↓endF_rt, ↓endT_nx, ↓endT_rt, ↓ix_pen, ↓st_pen1, ↓st_pen2, ↓isNon_oi, ↓fld_cs, ↓fld_ks, ↓is_cut, ↓is_key_of, ↓is_is_row, ↓cls_tbl, startE, wipeE, List.map_cons, List.map_nil, List.replicate, List.length_cons, List.length_nil, List.cons_append, List.nil_append, List.set_cons_zero, List.set_cons_succ, Nat.reduceAdd, Nat.reduceSub, true_and, and_true, ↓reduceIte, Bool.false_eq_true, Bool.not_true, Bool.not_false])
variable {fu k : Nat} {s : Sto} {Q : D → Sto → Prop} {X : Xq}
theorem o_dzpS {cs : List Str} {ds : List D} (hn : cs.Nodup) (hl : cs.length = ds.length) : @wpo (apDzp false s (.tup (cs.map .str)) (.tup ds)) Q = Q (.dic (cs.map .str) ds) s := by
  have l : (cs.map D.str).length = ds.length := by rw [List.length_map]; exact hl
  have e1 : ((cs.map D.str).zip ds).map (·.1) = cs.map D.str := List.map_fst_zip (Nat.le_of_eq l)
  have e2 : ((cs.map D.str).zip ds).map (·.2) = ds := List.map_snd_zip (Nat.le_of_eq l.symm)
  have k : ((cs.map D.str).all fun k => (keyD k).isSome) = true := by
    rw [List.all_map, List.all_eq_true]
    intro x hx
    rfl
  show @wpo (if (isSq s (.tup (cs.map .str)) && isSq s (.tup ds)) = true then (if (((cs.map D.str).all fun k => (keyD k).isSome) && distD (((cs.map D.str).zip ds).map (·.1))) = true then newD false s (((cs.map D.str).zip ds).map (·.1)) (((cs.map D.str).zip ds).map (·.2)) else none) else none) Q = _
  rw [e1, e2, k, distD_strs hn]
  rfl
def po2 : Option Int → PyData
  | none => .none
  | some i => .int i
theorem pd_oi (o : Option Int) : pd (oi o) = some (po2 o) := by cases o <;> rfl
theorem pds_oi : ∀ os : List (Option Int), pds (os.map oi) = some (os.map po2)
  | [] => rfl
  | o :: os => by simp only [List.map_cons, pds, pd_oi, pds_oi os, Option.bind_some, Option.map_some]
theorem okd_oi {n : Nat} (o : Option Int) : okd n (oi o) := by cases o; exact okd_non; exact okd_int
theorem in_oi {os : List (Option Int)} : apIn s .non (.tup (os.map oi)) = some (decide (none ∈ os)) := by
  have h1 : pdL s .non = some .none := by
    obtain ⟨p, e1, e2⟩ := pdL_of (s := s) (d := .non) (n := 0) okd_non (by decide)
    simp only [look, pd, Option.some.injEq] at e2
    rw [e1, e2]
  have h2 : pdL s (.tup (os.map oi)) = some (.tuple (os.map po2)) := by
    obtain ⟨p, e1, e2⟩ := pdL_of (s := s) (d := .tup (os.map oi)) (n := 1) (okd_tup (okds_map fun x h => okd_oi x)) (by decide)
    simp only [look, pd, pds_oi, Option.map_some, Option.some.injEq] at e2
    rw [e1, e2]
  show (match pdL s .non, pdL s (.tup (os.map oi)) with
    | some p, some (.list qs) => some (qs.any fun z => PyData.eqv z p)
    | some p, some (.tuple qs) => if flatP p && qs.all flatP then some (qs.any fun z => PyData.eqv z p) else none
    | _, _ => none) = _
  rw [h1, h2]
  have h3 : (os.map po2).all flatP = true := by
    rw [List.all_map, List.all_eq_true]
    intro o _
    cases o <;> rfl
  show (if flatP .none && (os.map po2).all flatP then some ((os.map po2).any fun z => PyData.eqv z .none) else none) = _
  rw [h3, show flatP .none = true from rfl, if_pos (by rfl), List.any_map]
  congr 1
  rw [Bool.eq_iff_iff, List.any_eq_true, decide_eq_true_eq]
  constructor
  · rintro ⟨x, hx, e⟩
    cases x with
    | none => exact hx
    | some i => cases e
  · intro h
    exact ⟨none, h, rfl⟩
theorem o_nin {os : List (Option Int)} : @wpo (ap2 .notin s .non (.tup (os.map oi))) Q = Q (.bl (!decide (none ∈ os))) s := by
  show @wpo ((apIn s .non (.tup (os.map oi))).bind fun b => ret s (.bl (!b))) Q = _
  rw [in_oi]
  rfl
theorem isV_oi : ∀ {ds : List D}, ds.all isV = true → ∃ r : List (Option Int), ds = r.map oi
  | [], _ => ⟨[], rfl⟩
  | d :: ds, h => by
    simp only [List.all_cons, Bool.and_eq_true] at h
    obtain ⟨r, rfl⟩ := isV_oi h.2
    have h1 := h.1
    cases d <;> first | (cases h1; done) | skip
    · exact ⟨none :: r, rfl⟩
    · rename_i i
      exact ⟨some i :: r, rfl⟩
theorem f_cut_ok {t : Tbl} {r : List (Option Int)} {d : D} {ws : List Str} (hn : t.cs.Nodup) (hl : t.cs.length = r.length) (hw : SqC d ws) (hs : ∀ w ∈ ws, w ∈ t.cs) (hl2 : ws.length ≤ 1000) (hq : Q (.tup ((cut t.cs r ws).map oi)) s) : @cl L.G (rawL L.G P fu (k + 2)) i_Table_cut [tbl t, .tup (r.map oi), d] s Q X := by
  refine fn_cl rfl rfl rfl ?_
  unfold b_Table_cut
  try walk_at "w"
  rw [o_dzpS hn (by rw [List.length_map]; exact hl)]
  try walk_at "w"
  have e : r.map oi = t.cs.map fun c => oi (valOf t.cs r c) := by
    have z := congrArg (List.map oi) (valOf_map hn hl)
    rw [List.map_map] at z
    exact z.symm
  rw [e]
  refine ⟨by rcases hw with rfl | rfl <;> rfl, ?_⟩
  refine lc_true D.str ws (fun c => oi (valOf t.cs r c)) hw.fix (Nat.le_trans hl2 (by decide)) (fun a ha acc => ?_) (fun a ha => oi_bel _ _) ?_
  · try walk_at "w"
    rw [o_dx (f := fun c => oi (valOf t.cs r c)) (ks := t.cs) rfl (hs a ha)]
    exact ⟨rfl, rfl⟩
  · try walk_at "w"
    have e2 : ws.map (fun c => oi (valOf t.cs r c)) = (cut t.cs r ws).map oi := by rw [cut, List.map_map]; rfl
    rw [e2, lv_same (by simp only [bel, ois_bel])]
    exact hq
theorem f_key_of_ok {t : Tbl} {r : List (Option Int)} (hn : t.cs.Nodup) (hl : t.cs.length = r.length) (hs : ∀ w ∈ t.ks, w ∈ t.cs) (hl2 : t.ks.length ≤ 1000) (hq : Q (.tup ((cut t.cs r t.ks).map oi)) s) : @cl L.G (rawL L.G P fu (k + 3)) i_Table_key_of [tbl t, .tup (r.map oi)] s Q X := by
  refine fn_cl rfl rfl rfl ?_
  unfold b_Table_key_of
  try walk_at "w"
  refine f_cut_ok hn hl (.inl rfl) hs hl2 ?_
  try walk_at "w"
  rw [lv_same (by simp only [bel, ois_bel])]
  exact hq
theorem f_row_no {t : Tbl} {d : D} (h : Sim d) (hn : kT d = false) (hq : Q (.bl false) s) : @cl L.G (rawL L.G P fu (k + 6)) i_Table_is_row [tbl t, d] s Q X := by
  refine fn_cl rfl rfl rfl ?_
  unfold b_Table_is_row
  try walk_at "w"
  rw [isi_t h, hn]
  try walk_at "w"
  rw [lv_same (by simp only [bel])]
  exact hq
theorem f_row_tup {t : Tbl} {ds : List D} (h : ∀ d ∈ ds, Sim d) (hl : ds.length ≤ 1000) (hn : t.cs.Nodup) (hs : ∀ w ∈ t.ks, w ∈ t.cs) (hl2 : t.ks.length ≤ 1000)
    (hq : ∀ b, (ds.length ≠ t.cs.length → b = false) → (ds.all isV = false → b = false) → (∀ r : List (Option Int), ds = r.map oi → ds.length = t.cs.length → ds.all isV = true → b = !decide (none ∈ cut t.cs r t.ks)) → Q (.bl b) s) : @cl L.G (rawL L.G P fu (k + 6)) i_Table_is_row [tbl t, .tup ds] s Q X := by
  refine fn_cl rfl rfl rfl ?_
  unfold b_Table_is_row
  try walk_at "w"
  rw [isi_t (show Sim (.tup ds) from trivial)]
  try walk_at "w"
  rw [show kT (.tup ds) = true from rfl]
  try walk_at "w"
  rw [List.length_map]
  have fin : ∀ b, Q (.bl b) s → @lv s s (.bl b) Q X := fun b h => by rw [lv_same (by simp only [bel])]; exact h
  refine br_dec (fun he => ?_) fun he => ?_
  · try walk_at "w"
    refine ⟨rfl, ?_⟩
    refine lc_true (id : D → D) ds (fun d => .bl (isV d)) (fun s => by rw [List.map_id]; rfl) (Nat.le_trans hl (by decide)) (fun a ha acc => ?_) (fun a ha => by simp only [bel]) ?_
    · try walk_at "w"
      refine f_is_value_ok (h a ha) ?_
      exact ⟨rfl, rfl⟩
    · try walk_at "w"
      have e : ds.map (fun d => D.bl (isV d)) = (ds.map isV).map .bl := by rw [List.map_map]; rfl
      rw [e, all_bl, List.all_map]
      try walk_at "w"
      have ei : ds.all (id ∘ isV) = ds.all isV := rfl
      rw [ei]
      refine br_bool (fun ha => ?_) fun ha => ?_
      · obtain ⟨r, rfl⟩ := isV_oi ha
        try walk_at "w"
        have hlr : t.cs.length = r.length := by rw [List.length_map] at he; omega
        refine f_key_of_ok hn hlr hs hl2 ?_
        try walk_at "w"
        rw [o_nin]
        try walk_at "w"
        refine fin _ (hq _ (fun z => absurd (by omega) z) (fun z => by rw [ha] at z; cases z) fun r2 e2 _ _ => ?_)
        have : r2 = r := by
          have inj : ∀ (a b : List (Option Int)), a.map oi = b.map oi → a = b := fun a b => by
            intro z
            have k1 := pds_oi a
            rw [z, pds_oi b] at k1
            have : b.map po2 = a.map po2 := Option.some.inj k1
            exact (List.map_inj_right (f := po2) (fun x y q => by cases x <;> cases y <;> simp [po2] at q ⊢ <;> exact q)).mp this.symm
          exact (inj _ _ e2).symm
        rw [this]
      · try walk_at "w"
        rw [ha]
        exact fin _ (hq _ (fun _ => rfl) (fun _ => rfl) fun r2 e2 _ z => by rw [ha] at z; cases z)
  · try walk_at "w"
    exact fin _ (hq _ (fun _ => rfl) (fun _ => rfl) fun r2 e2 z => absurd (by omega) he)
end Lw
end
section
set_option Elab.async false
set_option linter.all false
set_option maxRecDepth 100000
namespace Lw
open PySem Ir Tb
local macro_rules
  | `(tactic| walk_at "w") => `(tactic| simp only [↓ws_nil, ↓ws_pass, ↓ws_brk, ↓ws_cnt, ↓ws_retN, ↓ws_ret, ↓ws_expr, ↓ws_set, ↓ws_asg, ↓ws_if, ↓ws_sub, ↓ws_fld, ↓ws_dput, ↓ws_par, ↓ws_par3, ↓ws_for, ↓ws_while,
      ↓wl_nil, ↓wl_cons, ↓wx_var, ↓wx_con, ↓wx_glb, ↓wx_bty, ↓wx_bin, ↓wx_cmp, ↓wx_ix, ↓wx_bt, ↓wx_tup, ↓wx_lst, ↓wx_neg, ↓wx_meth, ↓wx_fld, ↓wx_call, ↓wx_own, ↓wx_cmt, ↓wx_make, ↓wx_mkv, ↓wx_cval, ↓wx_opk, ↓wx_inv, ↓wx_ink, ↓wx_eqk, ↓wx_bok, ↓wx_srt, ↓wx_sset, ↓wx_lset, ↓wx_rpr, ↓wx_dcpy, ↓wx_dlst, ↓wx_dpr, ↓wx_rvs, ↓wx_dx, ↓wx_din, ↓wx_dqe, ↓wx_rp, ↓wx_callo, ↓wx_kfn, ↓wx_kmake, ↓wx_kown, ↓wx_kcmt, ↓wx_kmkv, ↓wag_lone, ↓wag_nil, ↓wag_f, ↓wag_tt, ↓wsq_nil, ↓wsq_f, ↓wsq_t, dropE_zero, dropE_succ, List.length_nil, ↓sqK_some, ↓seqO_lst, ↓seqO_tup, ↓seqO_klst, ↓wx_bmx, ↓wx_dzp, ↓wx_dct, ↓wx_dsp, ↓txK_some, ↓wx_slc_tt, ↓wx_slc_ft, ↓wx_slc_tf, ↓wx_slc_ff, ↓wx_and, ↓wx_or, ↓wx_not, ↓wx_ite, ↓wx_chain, ↓wx_comp,
      ↓wt_yes, ↓wt_var, ↓wt_con, ↓wt_glb, ↓wt_cmp, ↓wt_ink, ↓wt_eqk, ↓wt_bok, ↓wt_din, ↓wt_dqe, ↓wt_dx, ↓wt_callo, ↓wt_chain, ↓wt_bt, ↓wt_call, ↓wt_own, ↓wt_cmt, ↓wt_fld, ↓wt_ix, ↓wt_and, ↓wt_or, ↓wt_not, ↓wi_seq, ↓wi_rng1, ↓wi_rng2, ↓wi_rng3, ↓wi_enum, ↓wi_zip,
      ↓atE_zero, ↓atE_succ, ↓br_true, ↓br_false, ↓br_not, ↓sat_ok, ↓blK_bl, ↓intK_int, ↓truK_some, ↓stoK_some, ↓putK_one, ↓putK_two, ↓putK_three, ↓twoK_two, ↓threeK_three, ↓boolK_t, ↓boolK_f,
      ↓o_add, ↓o_sub, ↓o_mul, ↓o_fdiv, ↓o_mod, ↓o_pow, ↓o_lt, ↓o_le, ↓o_gt, ↓o_ge, ↓o_eq, ↓o_ne, ↓o_isn, ↓o_notn, ↓o_isb, ↓o_notb, ↓o_tup0, ↓o_lst0, ↓o_lstm0, ↓o_tup, ↓o_lst, ↓o_lstm, ↓sz_nil, ↓sz_1, ↓sz_2, ↓sz_3, ↓sz_4, ↓sz_5, ↓sz_6, ↓o_neg, ↓o_abs, ↓o_toInt, ↓o_toIntb, ↓o_boolb, ↓o_boolT, ↓o_boolL, ↓o_max2, ↓o_min2, ↓o_lenL, ↓o_lenT, ↓o_lenK, ↓o_tupleL, ↓o_tupleT, ↓o_listL, ↓o_listT, ↓o_listmL, ↓o_listmT, ↓o_addT, ↓o_addL, ↓o_ixL, ↓o_ixT, ↓wpo_some, ↓wpo_ret, ↓wpo_bind,
      ix_0, ix_1, ix_2, tru_bl, tru_int, tru_non, tru_tup, tru_lst, isNon_int, isNon_non, isNon_tup,
      Option.isNone_none, Option.isNone_some, decide_true, decide_false, Int.reduceToNat, Int.reducePow, ↓nxt_nx, ↓nxt_rt, ↓nxt_bk, ↓nxt_ct, ↓nxt_ex, ↓lop_nx, ↓lop_rt, ↓lop_bk, ↓lop_ct, ↓lop_ex, ↓endF_nx, ↓endF_rt, ↓endT_nx, ↓endT_rt, ↓ix_pen, ↓st_pen1, ↓st_pen2, ↓isNon_oi, ↓fld_cs, ↓fld_ks, ↓is_cut, ↓is_key_of, ↓is_is_row, ↓cls_tbl, startE, wipeE, List.map_cons, List.map_nil, List.replicate, List.length_cons, List.length_nil, List.cons_append, List.nil_append, List.set_cons_zero, List.set_cons_succ, Nat.reduceAdd, Nat.reduceSub, true_and, and_true, ↓reduceIte, Bool.false_eq_true, Bool.not_true, Bool.not_false])
  | `(tactic| walk_at "v") => `(tactic| simp only [↓ws_nil, ↓ws_pass, ↓ws_brk, ↓ws_cnt, ↓ws_retN, ↓ws_ret, ↓ws_expr, ↓ws_set, ↓ws_asg, ↓ws_sub, ↓ws_fld, ↓ws_dput, ↓ws_par, ↓ws_par3, ↓ws_for, ↓ws_while,
      ↓wl_nil, ↓wl_cons, ↓wx_var, ↓wx_con, ↓wx_glb, ↓wx_bty, ↓wx_bin, ↓wx_cmp, ↓wx_ix, ↓wx_bt, ↓wx_tup, ↓wx_lst, ↓wx_neg, ↓wx_meth, ↓wx_fld, ↓wx_call, ↓wx_own, ↓wx_cmt, ↓wx_make, ↓wx_mkv, ↓wx_cval, ↓wx_opk, ↓wx_inv, ↓wx_ink, ↓wx_eqk, ↓wx_bok, ↓wx_srt, ↓wx_sset, ↓wx_lset, ↓wx_rpr, ↓wx_dcpy, ↓wx_dlst, ↓wx_dpr, ↓wx_rvs, ↓wx_dx, ↓wx_din, ↓wx_dqe, ↓wx_rp, ↓wx_callo, ↓wx_kfn, ↓wx_kmake, ↓wx_kown, ↓wx_kcmt, ↓wx_kmkv, ↓wag_lone, ↓wag_nil, ↓wag_f, ↓wag_tt, ↓wsq_nil, ↓wsq_f, ↓wsq_t, dropE_zero, dropE_succ, List.length_nil, ↓sqK_some, ↓seqO_lst, ↓seqO_tup, ↓seqO_klst, ↓wx_bmx, ↓wx_dzp, ↓wx_dct, ↓wx_dsp, ↓txK_some, ↓wx_slc_tt, ↓wx_slc_ft, ↓wx_slc_tf, ↓wx_slc_ff, ↓wx_and, ↓wx_or, ↓wx_not, ↓wx_ite, ↓wx_chain, ↓wx_comp,
      ↓wt_yes, ↓wt_var, ↓wt_con, ↓wt_glb, ↓wt_cmp, ↓wt_ink, ↓wt_eqk, ↓wt_bok, ↓wt_din, ↓wt_dqe, ↓wt_dx, ↓wt_callo, ↓wt_chain, ↓wt_bt, ↓wt_call, ↓wt_own, ↓wt_cmt, ↓wt_fld, ↓wt_ix, ↓wt_and, ↓wt_or, ↓wt_not, ↓wi_seq, ↓wi_rng1, ↓wi_rng2, ↓wi_rng3, ↓wi_enum, ↓wi_zip,
      ↓atE_zero, ↓atE_succ, ↓br_true, ↓br_false, ↓br_not, ↓sat_ok, ↓blK_bl, ↓intK_int, ↓truK_some, ↓stoK_some, ↓putK_one, ↓putK_two, ↓putK_three, ↓twoK_two, ↓threeK_three, ↓boolK_t, ↓boolK_f,
      ↓o_add, ↓o_sub, ↓o_mul, ↓o_fdiv, ↓o_mod, ↓o_pow, ↓o_lt, ↓o_le, ↓o_gt, ↓o_ge, ↓o_eq, ↓o_ne, ↓o_isn, ↓o_notn, ↓o_isb, ↓o_notb, ↓o_tup0, ↓o_lst0, ↓o_lstm0, ↓o_tup, ↓o_lst, ↓o_lstm, ↓sz_nil, ↓sz_1, ↓sz_2, ↓sz_3, ↓sz_4, ↓sz_5, ↓sz_6, ↓o_neg, ↓o_abs, ↓o_toInt, ↓o_toIntb, ↓o_boolb, ↓o_boolT, ↓o_boolL, ↓o_max2, ↓o_min2, ↓o_lenL, ↓o_lenT, ↓o_lenK, ↓o_tupleL, ↓o_tupleT, ↓o_listL, ↓o_listT, ↓o_listmL, ↓o_listmT, ↓o_addT, ↓o_addL, ↓o_ixL, ↓o_ixT, ↓wpo_some, ↓wpo_ret, ↓wpo_bind,
      ix_0, ix_1, ix_2, tru_bl, tru_int, tru_non, tru_tup, tru_lst, isNon_int, isNon_non, isNon_tup,
      Option.isNone_none, Option.isNone_some, decide_true, decide_false, Int.reduceToNat, Int.reducePow, ↓nxt_nx, ↓nxt_rt, ↓nxt_bk, ↓nxt_ct, ↓nxt_ex, ↓lop_nx, ↓lop_rt, ↓lop_bk, ↓lop_ct, ↓lop_ex, ↓endF_nx, ↓endF_rt, ↓endT_nx, ↓endT_rt, ↓ix_pen, ↓st_pen1, ↓st_pen2, ↓isNon_oi, ↓fld_cs, ↓fld_ks, ↓is_cut, ↓is_key_of, ↓is_is_row, ↓cls_tbl, startE, wipeE, List.map_cons, List.map_nil, List.replicate, List.length_cons, List.length_nil, List.cons_append, List.nil_append, List.set_cons_zero, List.set_cons_succ, Nat.reduceAdd, Nat.reduceSub, true_and, and_true, ↓reduceIte, Bool.false_eq_true, Bool.not_true, Bool.not_false])
variable {fu k : Nat} {s : Sto} {Q : D → Sto → Prop} {X : Xq}
/-- what makes a table -/
structure Mk (cs ky fx un : List Str) : Prop where
  ok : allOk cs
  c1 : 1 ≤ cs.length
  c4 : cs.length ≤ 4
  nm : ∀ c ∈ cs, isName c = true
  nd : cs.Nodup
  k1 : 1 ≤ ky.length
  k2 : ky.length ≤ 2
  kn : ky.Nodup
  ks : ∀ c ∈ ky, c ∈ cs
  fn : fx.Nodup
  fs : ∀ c ∈ fx, c ∈ cs ∧ c ∉ ky
  un_ : un.Nodup
  us : ∀ c ∈ un, c ∈ cs ∧ c ∉ ky
def mkT (cs ky fx un : List Str) (ru : Bool) : Tbl := ⟨cs, among cs ky, among cs fx, among cs un, ru⟩
theorem strOk_len {x : Str} (h : isName x = true) : x.length ≤ sizeLine := by
  simp only [isName, Bool.and_eq_true, decide_eq_true_eq] at h
  exact Nat.le_trans h.1.2 (by decide)
theorem pk_init {n : Nat} {cs : List Str} {kd fd ud rd : D} (h4 : cs.length ≤ 4) : L.G.pk i_Table___init__ ["key", "fixed", "unique", "reuse"] (.ref n :: cs.map .str) [kd, fd, ud, rd] = some [.ref n, kd, fd, ud, rd, .tup (cs.map .str)] :=
  pk_at (d := d_Table___init__) rfl (List.find?_cons_of_pos (fits_star rfl rfl rfl (Nat.le_add_left _ _) (by rw [List.length_cons, List.length_map]; exact Nat.le_trans (Nat.sub_le _ _) (Nat.le_trans (Nat.succ_le_succ h4) (by decide))))) rfl
theorem Table_init {cs ky fx un : List Str} {kd fd ud : D} {ru : Bool} (h : Mk cs ky fx un) (hk : SqC kd ky) (hf : SqC fd fx) (hu : SqC ud un) : @clk L.G (rawL L.G P fu (k + 5)) i_Table___init__ ["key", "fixed", "unique", "reuse"] (.ref s.length :: cs.map .str) [kd, fd, ud, .bl ru] (s ++ [.ins kc_Table [] []]) (fun (d : D) (s2 : Sto) => d = .non ∧ s2 = s ++ [tbl (mkT cs ky fx un ru)]) noX := by
  refine clk_to (pk_init h.c4) rfl rfl ?_
  unfold b_Table___init__
  try walk_at "w"
  rw [List.length_map, decide_eq_true (show (1 : Int) ≤ (cs.length : Int) by have := h.c1; omega)]
  try walk_at "w"
  rw [decide_eq_true (show (cs.length : Int) ≤ 4 by have := h.c4; omega)]
  try walk_at "w"
  refine ⟨rfl, ?_⟩
  refine lc_true D.str cs (fun c => .bl (isName c)) (fun s => rfl) (Nat.le_trans h.c4 (by decide)) (fun a ha acc => ?_) (fun a ha => by simp only [bel]) ?_
  · try walk_at "w"
    refine f_is_name_ok (strOk_len (h.nm a ha)) ?_
    exact ⟨rfl, rfl⟩
  have e1 : cs.map (fun c => D.bl (isName c)) = (cs.map isName).map .bl := by rw [List.map_map]; rfl
  have e2 : (cs.map isName).all id = true := by
    rw [List.all_map, List.all_eq_true]
    exact fun c hc => h.nm c hc
  try walk_at "w"
  rw [e1, all_bl, e2]
  try walk_at "w"
  refine f_are_distinct_ok (.inl rfl) (Nat.le_trans h.c4 (by decide)) ?_
  rw [decide_eq_true h.nd]
  try walk_at "w"
  rw [hk.len]
  try walk_at "w"
  rw [decide_eq_true (show (1 : Int) ≤ (ky.length : Int) by have := h.k1; omega)]
  try walk_at "w"
  rw [decide_eq_true (show (ky.length : Int) ≤ 2 by have := h.k2; omega)]
  try walk_at "w"
  have ok1 : ∀ {l : List Str}, (∀ c ∈ l, c ∈ cs) → allOk l := fun h1 c hc => h.ok c (h1 c hc)
  refine f_are_among_ok hk (.inl rfl) (ok1 h.ks) h.ok (Nat.le_trans h.k2 (by decide)) ?_
  rw [decide_eq_true h.kn, Bool.true_and, List.all_eq_true.mpr (fun c hc => decide_eq_true (h.ks c hc))]
  try walk_at "w"
  refine ⟨rfl, ?_⟩
  refine lc_pure D.str cs (fun c => !decide (c ∈ ky)) D.str (fun s => rfl) (Nat.le_trans h.c4 (by decide)) (fun a ha acc => ?_) (fun a ha => by simp only [bel]) ?_
  · try walk_at "w"
    rw [hk.nin (ok1 h.ks) (h.ok a ha)]
    try walk_at "w"
    exact fun _ => trivial
  have oth : ∀ {l : List Str}, (∀ c ∈ l, c ∈ cs ∧ c ∉ ky) → (l.all fun c => decide (c ∈ cs.filter fun c => !decide (c ∈ ky))) = true := fun h1 => List.all_eq_true.mpr fun c hc => by
    have := h1 c hc
    rw [decide_eq_true_eq, List.mem_filter]
    exact ⟨this.1, by simpa using this.2⟩
  have len : ∀ {l : List Str}, l.Nodup → (∀ c ∈ l, c ∈ cs) → l.length ≤ 1000 := fun h1 h2 => Nat.le_trans (h1.length_le_of_subset h2) (Nat.le_trans h.c4 (by decide))
  try walk_at "w"
  refine f_are_among_ok hf (.inr rfl) (ok1 fun c hc => (h.fs c hc).1) (fun c hc => h.ok c (List.mem_filter.mp hc).1) (len h.fn fun c hc => (h.fs c hc).1) ?_
  rw [decide_eq_true h.fn, Bool.true_and, oth h.fs]
  try walk_at "w"
  refine f_are_among_ok hu (.inr rfl) (ok1 fun c hc => (h.us c hc).1) (fun c hc => h.ok c (List.mem_filter.mp hc).1) (len h.un_ fun c hc => (h.us c hc).1) ?_
  rw [decide_eq_true h.un_, Bool.true_and, oth h.us]
  try walk_at "w"
  rw [stF_at at_last rfl (by show 0 < 1000; decide)]
  try walk_at "w"
  rw [set_last]
  refine ⟨rfl, ?_⟩
  refine lc_pure D.str cs (fun c => decide (c ∈ ky)) D.str (fun s => rfl) (Nat.le_trans h.c4 (by decide)) (fun a ha acc => ?_) (fun a ha => by simp only [bel]) ?_
  · try walk_at "w"
    rw [hk.in_ (ok1 h.ks) (h.ok a ha)]
    try walk_at "w"
    exact fun _ => trivial
  try walk_at "w"
  rw [stF_at at_last rfl (by show 1 < 1000; decide)]
  try walk_at "w"
  rw [set_last]
  refine ⟨rfl, ?_⟩
  refine lc_pure D.str cs (fun c => decide (c ∈ fx)) D.str (fun s => rfl) (Nat.le_trans h.c4 (by decide)) (fun a ha acc => ?_) (fun a ha => by simp only [bel]) ?_
  · try walk_at "w"
    rw [hf.in_ (ok1 fun c hc => (h.fs c hc).1) (h.ok a ha)]
    try walk_at "w"
    exact fun _ => trivial
  try walk_at "w"
  rw [stF_at at_last rfl (by show 2 < 1000; decide)]
  try walk_at "w"
  rw [set_last]
  refine ⟨rfl, ?_⟩
  refine lc_pure D.str cs (fun c => decide (c ∈ un)) D.str (fun s => rfl) (Nat.le_trans h.c4 (by decide)) (fun a ha acc => ?_) (fun a ha => by simp only [bel]) ?_
  · try walk_at "w"
    rw [hu.in_ (ok1 fun c hc => (h.us c hc).1) (h.ok a ha)]
    try walk_at "w"
    exact fun _ => trivial
  try walk_at "w"
  rw [stF_at at_last rfl (by show 3 < 1000; decide)]
  try walk_at "w"
  rw [set_last]
  rw [stF_at at_last rfl (by show 4 < 1000; decide)]
  try walk_at "w"
  rw [set_last]
  refine (lv_upd (s := s) (a := .ins kc_Table [] []) (b := tbl (mkT cs ky fx un ru)) (d := .non) (tbl_bel 0 _) (by simp only [bel])).mpr ⟨rfl, rfl⟩
theorem Table_mk {cs ky fx un : List Str} {kd fd ud : D} {ru : Bool} (h : Mk cs ky fx un) (hk : SqC kd ky) (hf : SqC fd fx) (hu : SqC ud un) (hq : Q (tbl (mkT cs ky fx un ru)) s) : @mkdk L.G false kc_Table (rawL L.G P fu (k + 5)) i_Table___init__ ["key", "fixed", "unique", "reuse"] (cs.map .str) [kd, fd, ud, .bl ru] s Q X :=
  mkdk_ok (Table_init h hk hf hu) (by simp only [bels, bel, strs_bel, Bool.and_self]) hq
theorem Table_of_ok {cs ky : List Str} {cd kd : D} (h : Mk cs ky [] []) (hc : SqC cd cs) (hk : SqC kd ky) (hq : Q (tbl (mkT cs ky [] [] true)) s) : @clk L.G (rawL L.G P fu (k + 7)) i_Table_of ["key"] [.cls kc_Table, cd] [kd] s Q X := by
  refine clk_to (es := [.cls kc_Table, cd, kd, .tup [], .tup [], .bl true]) (pk_at (d := d_Table_of) rfl (List.find?_cons_of_pos (fits_plain rfl rfl rfl rfl)) rfl) rfl rfl ?_
  unfold b_Table_of
  try walk_at "w"
  rw [hc.seq]
  try walk_at "w"
  refine Table_mk (fx := []) (un := []) h hk (.inl rfl) (.inl rfl) ?_
  try walk_at "w"
  rw [lv_same (tbl_bel _ _)]
  exact hq
end Lw
end
section
set_option Elab.async false
set_option linter.all false
set_option maxRecDepth 100000
namespace Lw
open PySem Ir Tb
theorem at2a {p a b : D} {r : Sto} : (p :: (r ++ [a] ++ [b]))[r.length + 1]? = some a := by simp
theorem at2b {p a b : D} {r : Sto} : (p :: (r ++ [a] ++ [b]))[r.length + 1 + 1]? = some b := by simp
theorem set2a {a b x : D} {r : Sto} : (r ++ [a] ++ [b]).set r.length x = r ++ [x] ++ [b] := by simp [List.set_append]
theorem set2b {a b x : D} {r : Sto} : (r ++ [a] ++ [b]).set (r.length + 1) x = r ++ [a] ++ [x] := by simp [List.set_append]
theorem rng_map (m : Nat) : ((List.range m).map fun (i : Nat) => D.int (0 + (i : Int) * 1)) = (List.range m).map fun (i : Nat) => D.int (i : Int) := by simp
theorem logB {m : Int} (h : m.natAbs ≤ 1000) : m.natAbs.log2 < 9000 := Nat.lt_of_le_of_lt (Nat.log2_le_self _) (by omega)
local macro_rules
  | `(tactic| walk_at "w") => `(tactic| simp only [↓ws_nil, ↓ws_pass, ↓ws_brk, ↓ws_cnt, ↓ws_retN, ↓ws_ret, ↓ws_expr, ↓ws_set, ↓ws_asg, ↓ws_if, ↓ws_sub, ↓ws_fld, ↓ws_dput, ↓ws_par, ↓ws_par3, ↓ws_for, ↓ws_while,
      ↓wl_nil, ↓wl_cons, ↓wx_var, ↓wx_con, ↓wx_glb, ↓wx_bty, ↓wx_bin, ↓wx_cmp, ↓wx_ix, ↓wx_bt, ↓wx_tup, ↓wx_lst, ↓wx_neg, ↓wx_meth, ↓wx_fld, ↓wx_call, ↓wx_own, ↓wx_cmt, ↓wx_make, ↓wx_mkv, ↓wx_cval, ↓wx_opk, ↓wx_inv, ↓wx_ink, ↓wx_eqk, ↓wx_bok, ↓wx_srt, ↓wx_sset, ↓wx_lset, ↓wx_rpr, ↓wx_dcpy, ↓wx_dlst, ↓wx_dpr, ↓wx_rvs, ↓wx_dx, ↓wx_din, ↓wx_dqe, ↓wx_rp, ↓wx_callo, ↓wx_kfn, ↓wx_kmake, ↓wx_kown, ↓wx_kcmt, ↓wx_kmkv, ↓wag_lone, ↓wag_nil, ↓wag_f, ↓wag_tt, ↓wsq_nil, ↓wsq_f, ↓wsq_t, dropE_zero, dropE_succ, List.length_nil, ↓sqK_some, ↓seqO_lst, ↓seqO_tup, ↓seqO_klst, ↓wx_bmx, ↓wx_dzp, ↓wx_dct, ↓wx_dsp, ↓txK_some, ↓wx_slc_tt, ↓wx_slc_ft, ↓wx_slc_tf, ↓wx_slc_ff, ↓wx_and, ↓wx_or, ↓wx_not, ↓wx_ite, ↓wx_chain, ↓wx_comp,
      ↓wt_yes, ↓wt_var, ↓wt_con, ↓wt_glb, ↓wt_cmp, ↓wt_ink, ↓wt_eqk, ↓wt_bok, ↓wt_din, ↓wt_dqe, ↓wt_dx, ↓wt_callo, ↓wt_chain, ↓wt_bt, ↓wt_call, ↓wt_own, ↓wt_cmt, ↓wt_fld, ↓wt_ix, ↓wt_and, ↓wt_or, ↓wt_not, ↓wi_seq, ↓wi_rng1, ↓wi_rng2, ↓wi_rng3, ↓wi_enum, ↓wi_zip,
      ↓atE_zero, ↓atE_succ, ↓br_true, ↓br_false, ↓br_not, ↓sat_ok, ↓blK_bl, ↓intK_int, ↓truK_some, ↓stoK_some, ↓putK_one, ↓putK_two, ↓putK_three, ↓twoK_two, ↓threeK_three, ↓boolK_t, ↓boolK_f,
      ↓o_add, ↓o_sub, ↓o_mul, ↓o_fdiv, ↓o_mod, ↓o_pow, ↓o_lt, ↓o_le, ↓o_gt, ↓o_ge, ↓o_eq, ↓o_ne, ↓o_isn, ↓o_notn, ↓o_isb, ↓o_notb, ↓o_tup0, ↓o_lst0, ↓o_lstm0, ↓o_tup, ↓o_lst, ↓o_lstm, ↓sz_nil, ↓sz_1, ↓sz_2, ↓sz_3, ↓sz_4, ↓sz_5, ↓sz_6, ↓o_neg, ↓o_abs, ↓o_toInt, ↓o_toIntb, ↓o_boolb, ↓o_boolT, ↓o_boolL, ↓o_max2, ↓o_min2, ↓o_lenL, ↓o_lenT, ↓o_lenK, ↓o_tupleL, ↓o_tupleT, ↓o_listL, ↓o_listT, ↓o_listmL, ↓o_listmT, ↓o_addT, ↓o_addL, ↓o_ixL, ↓o_ixT, ↓wpo_some, ↓wpo_ret, ↓wpo_bind,
      ix_0, ix_1, ix_2, tru_bl, tru_int, tru_non, tru_tup, tru_lst, isNon_int, isNon_non, isNon_tup,
      Option.isNone_none, Option.isNone_some, decide_true, decide_false, Int.reduceToNat, Int.reducePow, ↓nxt_nx, ↓nxt_rt, ↓nxt_bk, ↓nxt_ct, ↓nxt_ex, ↓lop_nx, ↓lop_rt, ↓lop_bk, ↓lop_ct, ↓lop_ex, ↓endF_nx, ↓endF_rt, ↓endT_nx, ↓endT_rt, ↓ix_pen, ↓st_pen1, ↓st_pen2, ↓isNon_oi, ↓fld_cs, ↓fld_ks, ↓is_cut, ↓is_key_of, ↓is_is_row, ↓cls_tbl, startE, wipeE, List.map_cons, List.map_nil, List.replicate, List.length_cons, List.length_nil, List.cons_append, List.nil_append, List.set_cons_zero, List.set_cons_succ, Nat.reduceAdd, Nat.reduceSub, true_and, and_true, ↓reduceIte, Bool.false_eq_true, Bool.not_true, Bool.not_false])
  | `(tactic| walk_at "v") => `(tactic| simp only [↓ws_nil, ↓ws_pass, ↓ws_brk, ↓ws_cnt, ↓ws_retN, ↓ws_ret, ↓ws_expr, ↓ws_set, ↓ws_asg, ↓ws_sub, ↓ws_fld, ↓ws_dput, ↓ws_par, ↓ws_par3, ↓ws_for, ↓ws_while,
      ↓wl_nil, ↓wl_cons, ↓wx_var, ↓wx_con, ↓wx_glb, ↓wx_bty, ↓wx_bin, ↓wx_cmp, ↓wx_ix, ↓wx_bt, ↓wx_tup, ↓wx_lst, ↓wx_neg, ↓wx_meth, ↓wx_fld, ↓wx_call, ↓wx_own, ↓wx_cmt, ↓wx_make, ↓wx_mkv, ↓wx_cval, ↓wx_opk, ↓wx_inv, ↓wx_ink, ↓wx_eqk, ↓wx_bok, ↓wx_srt, ↓wx_sset, ↓wx_lset, ↓wx_rpr, ↓wx_dcpy, ↓wx_dlst, ↓wx_dpr, ↓wx_rvs, ↓wx_dx, ↓wx_din, ↓wx_dqe, ↓wx_rp, ↓wx_callo, ↓wx_kfn, ↓wx_kmake, ↓wx_kown, ↓wx_kcmt, ↓wx_kmkv, ↓wag_lone, ↓wag_nil, ↓wag_f, ↓wag_tt, ↓wsq_nil, ↓wsq_f, ↓wsq_t, dropE_zero, dropE_succ, List.length_nil, ↓sqK_some, ↓seqO_lst, ↓seqO_tup, ↓seqO_klst, ↓wx_bmx, ↓wx_dzp, ↓wx_dct, ↓wx_dsp, ↓txK_some, ↓wx_slc_tt, ↓wx_slc_ft, ↓wx_slc_tf, ↓wx_slc_ff, ↓wx_and, ↓wx_or, ↓wx_not, ↓wx_ite, ↓wx_chain, ↓wx_comp,
      ↓wt_yes, ↓wt_var, ↓wt_con, ↓wt_glb, ↓wt_cmp, ↓wt_ink, ↓wt_eqk, ↓wt_bok, ↓wt_din, ↓wt_dqe, ↓wt_dx, ↓wt_callo, ↓wt_chain, ↓wt_bt, ↓wt_call, ↓wt_own, ↓wt_cmt, ↓wt_fld, ↓wt_ix, ↓wt_and, ↓wt_or, ↓wt_not, ↓wi_seq, ↓wi_rng1, ↓wi_rng2, ↓wi_rng3, ↓wi_enum, ↓wi_zip,
      ↓atE_zero, ↓atE_succ, ↓br_true, ↓br_false, ↓br_not, ↓sat_ok, ↓blK_bl, ↓intK_int, ↓truK_some, ↓stoK_some, ↓putK_one, ↓putK_two, ↓putK_three, ↓twoK_two, ↓threeK_three, ↓boolK_t, ↓boolK_f,
      ↓o_add, ↓o_sub, ↓o_mul, ↓o_fdiv, ↓o_mod, ↓o_pow, ↓o_lt, ↓o_le, ↓o_gt, ↓o_ge, ↓o_eq, ↓o_ne, ↓o_isn, ↓o_notn, ↓o_isb, ↓o_notb, ↓o_tup0, ↓o_lst0, ↓o_lstm0, ↓o_tup, ↓o_lst, ↓o_lstm, ↓sz_nil, ↓sz_1, ↓sz_2, ↓sz_3, ↓sz_4, ↓sz_5, ↓sz_6, ↓o_neg, ↓o_abs, ↓o_toInt, ↓o_toIntb, ↓o_boolb, ↓o_boolT, ↓o_boolL, ↓o_max2, ↓o_min2, ↓o_lenL, ↓o_lenT, ↓o_lenK, ↓o_tupleL, ↓o_tupleT, ↓o_listL, ↓o_listT, ↓o_listmL, ↓o_listmT, ↓o_addT, ↓o_addL, ↓o_ixL, ↓o_ixT, ↓wpo_some, ↓wpo_ret, ↓wpo_bind,
      ix_0, ix_1, ix_2, tru_bl, tru_int, tru_non, tru_tup, tru_lst, isNon_int, isNon_non, isNon_tup,
      Option.isNone_none, Option.isNone_some, decide_true, decide_false, Int.reduceToNat, Int.reducePow, ↓nxt_nx, ↓nxt_rt, ↓nxt_bk, ↓nxt_ct, ↓nxt_ex, ↓lop_nx, ↓lop_rt, ↓lop_bk, ↓lop_ct, ↓lop_ex, ↓endF_nx, ↓endF_rt, ↓endT_nx, ↓endT_rt, ↓ix_pen, ↓st_pen1, ↓st_pen2, ↓isNon_oi, ↓fld_cs, ↓fld_ks, ↓is_cut, ↓is_key_of, ↓is_is_row, ↓cls_tbl, startE, wipeE, List.map_cons, List.map_nil, List.replicate, List.length_cons, List.length_nil, List.cons_append, List.nil_append, List.set_cons_zero, List.set_cons_succ, Nat.reduceAdd, Nat.reduceSub, true_and, and_true, ↓reduceIte, Bool.false_eq_true, Bool.not_true, Bool.not_false])
variable {fu k : Nat} {s : Sto} {Q : D → Sto → Prop} {X : Xq} {cells : List Int} {n : Int} {p : D} {r : Sto}
theorem f_some_ok {xs : List Str} {d : D} {most : Int} (hd : SqC d xs) (ok : allOk xs) (hx : xs.Nodup) (h1 : 1 ≤ xs.length) (h2 : xs.length ≤ 100) (hp : Pen cells n p) (m1 : 1 ≤ most) (m2 : most ≤ 100) (hn : n + most + 2 < 2 ^ 20)
    (hq : ∀ (ys : List Str) p', ys.Nodup → 1 ≤ ys.length → (ys.length : Int) ≤ most → (∀ y ∈ ys, y ∈ xs) → Pen cells (n + 1 + most) p' → Q (.tup (ys.map .str)) (p' :: r)) : @cl L.G (rawL L.G P fu (k + 3)) i__law_some [.ref 0, d, .int most] (p :: r) Q X := by
  refine fn_cl rfl rfl rfl ?_
  unfold b__law_some
  have hl : ∀ Q : D → Sto → Prop, @wpo (apn L.G.T (.list true) (p :: r) [d]) Q = Q (.ref (p :: r).length) ((p :: r) ++ [.lst (xs.map .str)]) := fun Q => by rcases hd with rfl | rfl <;> rfl
  try walk_at "w"
  rw [hl]
  try walk_at "w"
  refine f_draw_ok hp (by omega) (by omega) (logB (by omega)) fun v p2 v0 v1 hp2 => ?_
  try walk_at "w"
  have v2 : rOk (1 + v) = true := by
    unfold rOk
    rw [decide_eq_true (by omega), decide_eq_true (by omega)]
    rfl
  refine ⟨v2, ?_⟩
  rw [len_app]
  have oks : ∀ l : List Str, (∀ x ∈ l, x ∈ xs) → okds 0 (l.map D.str) := fun l hl => okds_map fun x h => okd_str (ok x (hl x h))
  refine lp_inv (fun (i : Nat) => D.int (i : Int)) (List.range (1 + v).toNat) (fun s => by show some _ = some _; rw [rng_map]) (fun done _ env s' => ∃ p3 lf fd, s' = p3 :: (r ++ [.lst (lf.map .str)] ++ [.lst (fd.map .str)]) ∧ Pen cells (n + 1 + done.length) p3 ∧ (fd ++ lf : List Str).Perm xs ∧ fd.length ≤ done.length ∧ (done ≠ [] → fd ≠ []) ∧ ∃ a, env = [some (.ref 0), some d, some (.int most), some (.ref (r.length + 1)), some (.ref (r.length + 1 + 1)), a]) (fun done x rest env s' hd' h => ?_) (fun env s' h => ?_) _ _ ⟨p2, xs, [], rfl, by simpa using hp2, by simp, by simp, by simp, _, rfl⟩
  · obtain ⟨p3, lf, fd, rfl, hp3, hperm, hlen, hne, a, rfl⟩ := h
    have hdl : done.length + 1 ≤ (1 + v).toNat := by
      have := congrArg List.length hd'
      simp at this
      omega
    have sub : ∀ x ∈ lf, x ∈ xs := fun x hx => hperm.subset (by simp [hx])
    try walk_at "w"
    rw [o_neE (look_at at2a) (oks lf sub) (by decide)]
    try walk_at "w"
    refine br_bool (fun hc => ?_) fun hc => ?_
    · have e : lf = [] := by
        cases lf with
        | nil => rfl
        | cons _ _ => simp at hc
      subst e
      have hl2 := hperm.length_eq
      try walk_at "w"
      refine ⟨p3, [], fd, rfl, hp3.mono (by simp; omega), hperm, by simp; omega, fun _ e2 => ?_, _, rfl⟩
      rw [e2] at hl2
      simp at hl2
      omega
    · try walk_at "w"
      refine ⟨isTy_at at2b, isTy_at at2a, ?_⟩
      rw [o_lenR at2a]
      try walk_at "w"
      rw [List.length_map]
      have hpos : 0 < lf.length := by
        cases lf with
        | nil => simp at hc
        | cons _ _ => simp
      have hmax : lf.length ≤ 100 := by
        have := hperm.length_eq
        rw [List.length_append] at this
        omega
      refine f_draw_ok hp3 (by omega) (by omega) (logB (by omega)) fun w p4 w0 w1 hp4 => ?_
      have hw : w.toNat < lf.length := by omega
      try walk_at "w"
      rw [o_popAt (x := .str lf[w.toNat]) at2a w0 (by rw [List.length_map]; exact w1) (by rw [List.length_map]; omega) (by rw [List.getElem?_map, List.getElem?_eq_getElem hw]; rfl)]
      try walk_at "w"
      rw [set2a, o_append at2b]
      try walk_at "w"
      refine ⟨by rw [List.length_map]; have := hperm.length_eq; rw [List.length_append] at this; exact Nat.lt_of_le_of_lt (show fd.length ≤ 100 by omega) (by decide), ?_⟩
      rw [set2b, map_erase]
      have e3 : fd.map D.str ++ [D.str lf[w.toNat]] = (fd ++ [lf[w.toNat]]).map D.str := by simp
      rw [e3]
      refine ⟨p4, lf.eraseIdx w.toNat, fd ++ [lf[w.toNat]], rfl, by simpa [Int.add_assoc] using hp4, ?_, by simp; omega, fun _ => by simp, _, rfl⟩
      rw [List.append_assoc]
      exact ((perm_erase lf w.toNat hw).append_left fd).trans hperm
  · obtain ⟨p3, lf, fd, rfl, hp3, hperm, hlen, hne, a, rfl⟩ := h
    try walk_at "w"
    rw [o_tupleR at2b]
    try walk_at "w"
    rw [List.append_assoc, lv_head hp3.free (by simp only [bel, strs_bel])]
    rw [List.length_range] at hp3 hlen
    have nd : (fd ++ lf).Nodup := hperm.nodup_iff.mpr hx
    refine hq fd p3 (List.nodup_append.mp nd).1 ?_ (by omega) (fun y hy => hperm.subset (by simp [hy])) (hp3.mono (by omega))
    have : fd ≠ [] := hne (by
      intro e
      have := congrArg List.length e
      simp at this
      omega)
    exact List.length_pos_iff.mpr this
end Lw
end
section
set_option Elab.async false
set_option linter.all false
set_option maxRecDepth 100000
namespace Lw
open PySem Ir Tb
def inB (o : Option Int) : Prop := match o with
  | none => True
  | some i => i.natAbs < 10 ^ 30
theorem atI_mem {ds : List D} {i : Int} (h0 : 0 ≤ i) (h1 : i < ds.length) : ∃ x, L2.atI ds i = some x ∧ x ∈ ds := by
  have hl : i.toNat < ds.length := by omega
  have e : L2.atI ds ((i.toNat : Nat) : Int) = some ds[i.toNat] := atI_nat (List.getElem?_eq_getElem hl)
  rw [Int.toNat_of_nonneg h0] at e
  exact ⟨_, e, List.getElem_mem hl⟩
local macro_rules
  | `(tactic| walk_at "w") => `(tactic| simp only [↓ws_nil, ↓ws_pass, ↓ws_brk, ↓ws_cnt, ↓ws_retN, ↓ws_ret, ↓ws_expr, ↓ws_set, ↓ws_asg, ↓ws_if, ↓ws_sub, ↓ws_fld, ↓ws_dput, ↓ws_par, ↓ws_par3, ↓ws_for, ↓ws_while,
      ↓wl_nil, ↓wl_cons, ↓wx_var, ↓wx_con, ↓wx_glb, ↓wx_bty, ↓wx_bin, ↓wx_cmp, ↓wx_ix, ↓wx_bt, ↓wx_tup, ↓wx_lst, ↓wx_neg, ↓wx_meth, ↓wx_fld, ↓wx_call, ↓wx_own, ↓wx_cmt, ↓wx_make, ↓wx_mkv, ↓wx_cval, ↓wx_opk, ↓wx_inv, ↓wx_ink, ↓wx_eqk, ↓wx_bok, ↓wx_srt, ↓wx_sset, ↓wx_lset, ↓wx_rpr, ↓wx_dcpy, ↓wx_dlst, ↓wx_dpr, ↓wx_rvs, ↓wx_dx, ↓wx_din, ↓wx_dqe, ↓wx_rp, ↓wx_callo, ↓wx_kfn, ↓wx_kmake, ↓wx_kown, ↓wx_kcmt, ↓wx_kmkv, ↓wag_lone, ↓wag_nil, ↓wag_f, ↓wag_tt, ↓wsq_nil, ↓wsq_f, ↓wsq_t, dropE_zero, dropE_succ, List.length_nil, ↓sqK_some, ↓seqO_lst, ↓seqO_tup, ↓seqO_klst, ↓wx_bmx, ↓wx_dzp, ↓wx_dct, ↓wx_dsp, ↓txK_some, ↓wx_slc_tt, ↓wx_slc_ft, ↓wx_slc_tf, ↓wx_slc_ff, ↓wx_and, ↓wx_or, ↓wx_not, ↓wx_ite, ↓wx_chain, ↓wx_comp,
      ↓wt_yes, ↓wt_var, ↓wt_con, ↓wt_glb, ↓wt_cmp, ↓wt_ink, ↓wt_eqk, ↓wt_bok, ↓wt_din, ↓wt_dqe, ↓wt_dx, ↓wt_callo, ↓wt_chain, ↓wt_bt, ↓wt_call, ↓wt_own, ↓wt_cmt, ↓wt_fld, ↓wt_ix, ↓wt_and, ↓wt_or, ↓wt_not, ↓wi_seq, ↓wi_rng1, ↓wi_rng2, ↓wi_rng3, ↓wi_enum, ↓wi_zip,
      ↓atE_zero, ↓atE_succ, ↓br_true, ↓br_false, ↓br_not, ↓sat_ok, ↓blK_bl, ↓intK_int, ↓truK_some, ↓stoK_some, ↓putK_one, ↓putK_two, ↓putK_three, ↓twoK_two, ↓threeK_three, ↓boolK_t, ↓boolK_f,
      ↓o_add, ↓o_sub, ↓o_mul, ↓o_fdiv, ↓o_mod, ↓o_pow, ↓o_lt, ↓o_le, ↓o_gt, ↓o_ge, ↓o_eq, ↓o_ne, ↓o_isn, ↓o_notn, ↓o_isb, ↓o_notb, ↓o_tup0, ↓o_lst0, ↓o_lstm0, ↓o_tup, ↓o_lst, ↓o_lstm, ↓sz_nil, ↓sz_1, ↓sz_2, ↓sz_3, ↓sz_4, ↓sz_5, ↓sz_6, ↓o_neg, ↓o_abs, ↓o_toInt, ↓o_toIntb, ↓o_boolb, ↓o_boolT, ↓o_boolL, ↓o_max2, ↓o_min2, ↓o_lenL, ↓o_lenT, ↓o_lenK, ↓o_tupleL, ↓o_tupleT, ↓o_listL, ↓o_listT, ↓o_listmL, ↓o_listmT, ↓o_addT, ↓o_addL, ↓o_ixL, ↓o_ixT, ↓wpo_some, ↓wpo_ret, ↓wpo_bind,
      ix_0, ix_1, ix_2, tru_bl, tru_int, tru_non, tru_tup, tru_lst, isNon_int, isNon_non, isNon_tup,
      Option.isNone_none, Option.isNone_some, decide_true, decide_false, Int.reduceToNat, Int.reducePow, ↓nxt_nx, ↓nxt_rt, ↓nxt_bk, ↓nxt_ct, ↓nxt_ex, ↓lop_nx, ↓lop_rt, ↓lop_bk, ↓lop_ct, ↓lop_ex, ↓endF_nx, ↓endF_rt, ↓endT_nx, ↓endT_rt, ↓ix_pen, ↓st_pen1, ↓st_pen2, ↓isNon_oi, ↓fld_cs, ↓fld_ks, ↓is_cut, ↓is_key_of, ↓is_is_row, ↓cls_tbl, startE, wipeE, List.map_cons, List.map_nil, List.replicate, List.length_cons, List.length_nil, List.cons_append, List.nil_append, List.set_cons_zero, List.set_cons_succ, Nat.reduceAdd, Nat.reduceSub, true_and, and_true, ↓reduceIte, Bool.false_eq_true, Bool.not_true, Bool.not_false])
  | `(tactic| walk_at "v") => `(tactic| simp only [↓ws_nil, ↓ws_pass, ↓ws_brk, ↓ws_cnt, ↓ws_retN, ↓ws_ret, ↓ws_expr, ↓ws_set, ↓ws_asg, ↓ws_sub, ↓ws_fld, ↓ws_dput, ↓ws_par, ↓ws_par3, ↓ws_for, ↓ws_while,
      ↓wl_nil, ↓wl_cons, ↓wx_var, ↓wx_con, ↓wx_glb, ↓wx_bty, ↓wx_bin, ↓wx_cmp, ↓wx_ix, ↓wx_bt, ↓wx_tup, ↓wx_lst, ↓wx_neg, ↓wx_meth, ↓wx_fld, ↓wx_call, ↓wx_own, ↓wx_cmt, ↓wx_make, ↓wx_mkv, ↓wx_cval, ↓wx_opk, ↓wx_inv, ↓wx_ink, ↓wx_eqk, ↓wx_bok, ↓wx_srt, ↓wx_sset, ↓wx_lset, ↓wx_rpr, ↓wx_dcpy, ↓wx_dlst, ↓wx_dpr, ↓wx_rvs, ↓wx_dx, ↓wx_din, ↓wx_dqe, ↓wx_rp, ↓wx_callo, ↓wx_kfn, ↓wx_kmake, ↓wx_kown, ↓wx_kcmt, ↓wx_kmkv, ↓wag_lone, ↓wag_nil, ↓wag_f, ↓wag_tt, ↓wsq_nil, ↓wsq_f, ↓wsq_t, dropE_zero, dropE_succ, List.length_nil, ↓sqK_some, ↓seqO_lst, ↓seqO_tup, ↓seqO_klst, ↓wx_bmx, ↓wx_dzp, ↓wx_dct, ↓wx_dsp, ↓txK_some, ↓wx_slc_tt, ↓wx_slc_ft, ↓wx_slc_tf, ↓wx_slc_ff, ↓wx_and, ↓wx_or, ↓wx_not, ↓wx_ite, ↓wx_chain, ↓wx_comp,
      ↓wt_yes, ↓wt_var, ↓wt_con, ↓wt_glb, ↓wt_cmp, ↓wt_ink, ↓wt_eqk, ↓wt_bok, ↓wt_din, ↓wt_dqe, ↓wt_dx, ↓wt_callo, ↓wt_chain, ↓wt_bt, ↓wt_call, ↓wt_own, ↓wt_cmt, ↓wt_fld, ↓wt_ix, ↓wt_and, ↓wt_or, ↓wt_not, ↓wi_seq, ↓wi_rng1, ↓wi_rng2, ↓wi_rng3, ↓wi_enum, ↓wi_zip,
      ↓atE_zero, ↓atE_succ, ↓br_true, ↓br_false, ↓br_not, ↓sat_ok, ↓blK_bl, ↓intK_int, ↓truK_some, ↓stoK_some, ↓putK_one, ↓putK_two, ↓putK_three, ↓twoK_two, ↓threeK_three, ↓boolK_t, ↓boolK_f,
      ↓o_add, ↓o_sub, ↓o_mul, ↓o_fdiv, ↓o_mod, ↓o_pow, ↓o_lt, ↓o_le, ↓o_gt, ↓o_ge, ↓o_eq, ↓o_ne, ↓o_isn, ↓o_notn, ↓o_isb, ↓o_notb, ↓o_tup0, ↓o_lst0, ↓o_lstm0, ↓o_tup, ↓o_lst, ↓o_lstm, ↓sz_nil, ↓sz_1, ↓sz_2, ↓sz_3, ↓sz_4, ↓sz_5, ↓sz_6, ↓o_neg, ↓o_abs, ↓o_toInt, ↓o_toIntb, ↓o_boolb, ↓o_boolT, ↓o_boolL, ↓o_max2, ↓o_min2, ↓o_lenL, ↓o_lenT, ↓o_lenK, ↓o_tupleL, ↓o_tupleT, ↓o_listL, ↓o_listT, ↓o_listmL, ↓o_listmT, ↓o_addT, ↓o_addL, ↓o_ixL, ↓o_ixT, ↓wpo_some, ↓wpo_ret, ↓wpo_bind,
      ix_0, ix_1, ix_2, tru_bl, tru_int, tru_non, tru_tup, tru_lst, isNon_int, isNon_non, isNon_tup,
      Option.isNone_none, Option.isNone_some, decide_true, decide_false, Int.reduceToNat, Int.reducePow, ↓nxt_nx, ↓nxt_rt, ↓nxt_bk, ↓nxt_ct, ↓nxt_ex, ↓lop_nx, ↓lop_rt, ↓lop_bk, ↓lop_ct, ↓lop_ex, ↓endF_nx, ↓endF_rt, ↓endT_nx, ↓endT_rt, ↓ix_pen, ↓st_pen1, ↓st_pen2, ↓isNon_oi, ↓fld_cs, ↓fld_ks, ↓is_cut, ↓is_key_of, ↓is_is_row, ↓cls_tbl, startE, wipeE, List.map_cons, List.map_nil, List.replicate, List.length_cons, List.length_nil, List.cons_append, List.nil_append, List.set_cons_zero, List.set_cons_succ, Nat.reduceAdd, Nat.reduceSub, true_and, and_true, ↓reduceIte, Bool.false_eq_true, Bool.not_true, Bool.not_false])
variable {fu k : Nat} {s : Sto} {Q : D → Sto → Prop} {X : Xq} {cells : List Int} {n : Int} {p : D} {r : Sto}
theorem f_value_ok {b : Bool} (hp : Pen cells n p) (hn : n + 2 < 2 ^ 20) (hq : ∀ o p', inB o → (b = true → o ≠ none) → Pen cells (n + 2) p' → Q (oi o) (p' :: r)) : @cl L.G (rawL L.G P fu (k + 3)) i__law_value [.ref 0, .bl b] (p :: r) Q X := by
  refine fn_cl rfl rfl rfl ?_
  unfold b__law_value
  try walk_at "w"
  refine f_draw_ok hp (by omega) (by decide) (by decide) fun v p2 v0 v1 hp2 => ?_
  try walk_at "w"
  have out : ∀ (o : Option Int) (m : Int) (p' : D), inB o → (b = true → o ≠ none) → Pen cells m p' → m ≤ n + 2 → @lv (p :: r) (p' :: r) (oi o) Q X := fun o m p' h1 h2 h3 h4 => by
    rw [lv_head0 h3.free (oi_bel _ _)]
    exact hq o p' h1 h2 (h3.mono h4)
  refine br_dec (fun hv => ?_) fun hv => ?_
  · try walk_at "w"
    refine ⟨by decide, by decide, by decide, ?_⟩
    refine f_draw_ok hp2 (by omega) (by decide) (by decide) fun w p3 w0 w1 hp3 => ?_
    have hw : w = 0 ∨ w = 1 ∨ w = 2 := by omega
    rcases hw with rfl | rfl | rfl
    · try walk_at "w"
      exact out (some (10 ^ 29)) _ p3 (by show Int.natAbs _ < _; decide) (fun _ e => by cases e) hp3 (by omega)
    · try walk_at "w"
      exact out (some (0 - 10 ^ 29)) _ p3 (by show Int.natAbs _ < _; decide) (fun _ e => by cases e) hp3 (by omega)
    · try walk_at "w"
      exact out (some (10 ^ 30 - 1)) _ p3 (by show Int.natAbs _ < _; decide) (fun _ e => by cases e) hp3 (by omega)
  · try walk_at "w"
    refine br_dec (fun h3 => ?_) fun h3 => ?_
    · try walk_at "w"
      refine br_bool (fun hb => ?_) fun hb => ?_
      · try walk_at "w"
        refine f_draw_ok hp2 (by omega) (by decide) (by decide) fun w p3 w0 w1 hp3 => ?_
        try walk_at "w"
        exact out (some (w - 4)) _ p3 (by show Int.natAbs _ < _; omega) (fun _ e => by cases e) hp3 (by omega)
      · try walk_at "w"
        exact out none _ p2 trivial (fun e => by rw [hb] at e; cases e) hp2 (by omega)
    · try walk_at "w"
      refine f_draw_ok hp2 (by omega) (by decide) (by decide) fun w p3 w0 w1 hp3 => ?_
      try walk_at "w"
      exact out (some (w - 4)) _ p3 (by show Int.natAbs _ < _; omega) (fun _ e => by cases e) hp3 (by omega)
/-! what is no row -/
def NoRow (t : Tbl) (d : D) : Prop := ∀ (fu k : Nat) (s : Sto) (Q : D → Sto → Prop) (X : Xq), Q (.bl false) s → @cl L.G (rawL L.G P fu (k + 6)) i_Table_is_row [tbl t, d] s Q X
theorem NoRow.notT {t : Tbl} {d : D} (h : Sim d) (hk : kT d = false) : NoRow t d := fun fu k s Q X hq => f_row_no h hk hq
structure TOk (t : Tbl) : Prop where
  nd : t.cs.Nodup
  ks : ∀ w ∈ t.ks, w ∈ t.cs
  kl : t.ks.length ≤ 1000
theorem NoRow.len {t : Tbl} {ds : List D} (o : TOk t) (h : ∀ d ∈ ds, Sim d) (hl : ds.length ≤ 1000) (hn : ds.length ≠ t.cs.length) : NoRow t (.tup ds) := fun fu k s Q X hq => f_row_tup h hl o.nd o.ks o.kl fun b h1 _ _ => by rw [h1 hn]; exact hq
theorem NoRow.val {t : Tbl} {ds : List D} {d : D} (o : TOk t) (h : ∀ d ∈ ds, Sim d) (hl : ds.length ≤ 1000) (hd : d ∈ ds) (hv : isV d = false) : NoRow t (.tup ds) := fun fu k s Q X hq => f_row_tup h hl o.nd o.ks o.kl fun b _ h2 _ => by
  rw [h2 (by
    rw [List.all_eq_false]
    exact ⟨d, hd, by simp [hv]⟩)]
  exact hq
theorem Sim_oi (o : Option Int) : Sim (oi o) := by cases o <;> trivial
theorem sim_row {ds : List (Option Int)} : ∀ d ∈ ds.map oi, Sim d := fun d hd => by
  obtain ⟨o, _, rfl⟩ := List.mem_map.mp hd
  exact Sim_oi o
theorem isV_in {o : Option Int} (h : inB o) : isV (oi o) = true := by
  cases o with
  | none => rfl
  | some i => exact decide_eq_true h
theorem NoRow.key {t : Tbl} {rw_ : List (Option Int)} (o : TOk t) (hl : rw_.length ≤ 1000) (hn : none ∈ cut t.cs rw_ t.ks) : NoRow t (.tup (rw_.map oi)) := fun fu k s Q X hq => f_row_tup sim_row (by rw [List.length_map]; exact hl) o.nd o.ks o.kl fun b h1 h2 h3 => by
  have : b = false := by
    by_cases e : (rw_.map oi).length = t.cs.length
    · cases hv : (rw_.map oi).all isV with
      | false => exact h2 hv
      | true => rw [h3 rw_ rfl e hv, decide_eq_true hn]; rfl
    · exact h1 e
  rw [this]
  exact hq
theorem IsRow.ok {t : Tbl} {rw_ : List (Option Int)} (o : TOk t) (hl : rw_.length = t.cs.length) (hl2 : t.cs.length ≤ 1000) (hb : ∀ x ∈ rw_, inB x) (hn : none ∉ cut t.cs rw_ t.ks) (hq : Q (.bl true) s) : @cl L.G (rawL L.G P fu (k + 6)) i_Table_is_row [tbl t, .tup (rw_.map oi)] s Q X := f_row_tup sim_row (by rw [List.length_map]; omega) o.nd o.ks o.kl fun b h1 h2 h3 => by
  have e : (rw_.map oi).all isV = true := List.all_eq_true.mpr fun d hd => by
    obtain ⟨x, hx, rfl⟩ := List.mem_map.mp hd
    exact isV_in (hb x hx)
  rw [h3 rw_ rfl (by rw [List.length_map]; exact hl) e, decide_eq_false hn]
  exact hq
end Lw
end
section
set_option Elab.async false
set_option linter.all false
set_option maxRecDepth 100000
namespace Lw
open PySem Ir Tb
theorem cutA_drop {α : Type} (xs : List α) (c : Nat) : cutA xs (some (c : Int)) none = xs.drop c := by
  unfold cutA
  rw [HT.sIx_nat, HT.sIx_none]
  by_cases h : c ≤ xs.length
  · rw [Nat.min_eq_left h]
    exact List.take_of_length_le (by rw [List.length_drop]; omega)
  · rw [Nat.min_eq_right (by omega), List.drop_length, List.drop_of_length_le (by omega), List.take_nil]
theorem slT_to {s : Sto} {Q : D → Sto → Prop} {ds : List D} {c : Nat} : @wpo (apSl false s (.tup ds) none (some (c : Int))) Q = Q (.tup (ds.take c)) s := by
  show @wpo (newT s (cutA ds none (some (c : Int)))) Q = _
  rw [cutA_take]
  rfl
theorem slT_from {s : Sto} {Q : D → Sto → Prop} {ds : List D} {c : Nat} : @wpo (apSl false s (.tup ds) (some (c : Int)) none) Q = Q (.tup (ds.drop c)) s := by
  show @wpo (newT s (cutA ds (some (c : Int)) none)) Q = _
  rw [cutA_drop]
  rfl
theorem slT_but {s : Sto} {Q : D → Sto → Prop} {ds : List D} (h : 0 < ds.length) : @wpo (apSl false s (.tup ds) none (some (-1))) Q = Q (.tup ds.dropLast) s := by
  show @wpo (newT s (cutA ds none (some (-1)))) Q = _
  have e : cutA ds none (some (-1)) = ds.dropLast := by
    unfold cutA
    rw [HT.sIx_none, List.drop_zero, Nat.sub_zero, List.dropLast_eq_take]
    congr 1
    show (if (-1 : Int) < 0 then ((-1 : Int) + (ds.length : Int)).toNat else min (-1 : Int).toNat ds.length) = ds.length - 1
    rw [if_pos (by decide)]
    omega
  rw [e]
  rfl
theorem bels_app {m : Nat} : ∀ {l q : List D}, bels m l = true → bels m q = true → bels m (l ++ q) = true
  | [], _, _, h2 => h2
  | d :: l, q, h1, h2 => by
    simp only [bels, Bool.and_eq_true] at h1
    simp only [List.cons_append, bels, h1.1, bels_app h1.2 h2, Bool.and_self]
local macro_rules
  | `(tactic| walk_at "w") => `(tactic| simp only [↓ws_nil, ↓ws_pass, ↓ws_brk, ↓ws_cnt, ↓ws_retN, ↓ws_ret, ↓ws_expr, ↓ws_set, ↓ws_asg, ↓ws_if, ↓ws_sub, ↓ws_fld, ↓ws_dput, ↓ws_par, ↓ws_par3, ↓ws_for, ↓ws_while,
      ↓wl_nil, ↓wl_cons, ↓wx_var, ↓wx_con, ↓wx_glb, ↓wx_bty, ↓wx_bin, ↓wx_cmp, ↓wx_ix, ↓wx_bt, ↓wx_tup, ↓wx_lst, ↓wx_neg, ↓wx_meth, ↓wx_fld, ↓wx_call, ↓wx_own, ↓wx_cmt, ↓wx_make, ↓wx_mkv, ↓wx_cval, ↓wx_opk, ↓wx_inv, ↓wx_ink, ↓wx_eqk, ↓wx_bok, ↓wx_srt, ↓wx_sset, ↓wx_lset, ↓wx_rpr, ↓wx_dcpy, ↓wx_dlst, ↓wx_dpr, ↓wx_rvs, ↓wx_dx, ↓wx_din, ↓wx_dqe, ↓wx_rp, ↓wx_callo, ↓wx_kfn, ↓wx_kmake, ↓wx_kown, ↓wx_kcmt, ↓wx_kmkv, ↓wag_lone, ↓wag_nil, ↓wag_f, ↓wag_tt, ↓wsq_nil, ↓wsq_f, ↓wsq_t, dropE_zero, dropE_succ, List.length_nil, ↓sqK_some, ↓seqO_lst, ↓seqO_tup, ↓seqO_klst, ↓wx_bmx, ↓wx_dzp, ↓wx_dct, ↓wx_dsp, ↓txK_some, ↓wx_slc_tt, ↓wx_slc_ft, ↓wx_slc_tf, ↓wx_slc_ff, ↓wx_and, ↓wx_or, ↓wx_not, ↓wx_ite, ↓wx_chain, ↓wx_comp,
      ↓wt_yes, ↓wt_var, ↓wt_con, ↓wt_glb, ↓wt_cmp, ↓wt_ink, ↓wt_eqk, ↓wt_bok, ↓wt_din, ↓wt_dqe, ↓wt_dx, ↓wt_callo, ↓wt_chain, ↓wt_bt, ↓wt_call, ↓wt_own, ↓wt_cmt, ↓wt_fld, ↓wt_ix, ↓wt_and, ↓wt_or, ↓wt_not, ↓wi_seq, ↓wi_rng1, ↓wi_rng2, ↓wi_rng3, ↓wi_enum, ↓wi_zip,
      ↓atE_zero, ↓atE_succ, ↓br_true, ↓br_false, ↓br_not, ↓sat_ok, ↓blK_bl, ↓intK_int, ↓truK_some, ↓stoK_some, ↓putK_one, ↓putK_two, ↓putK_three, ↓twoK_two, ↓threeK_three, ↓boolK_t, ↓boolK_f,
      ↓o_add, ↓o_sub, ↓o_mul, ↓o_fdiv, ↓o_mod, ↓o_pow, ↓o_lt, ↓o_le, ↓o_gt, ↓o_ge, ↓o_eq, ↓o_ne, ↓o_isn, ↓o_notn, ↓o_isb, ↓o_notb, ↓o_tup0, ↓o_lst0, ↓o_lstm0, ↓o_tup, ↓o_lst, ↓o_lstm, ↓sz_nil, ↓sz_1, ↓sz_2, ↓sz_3, ↓sz_4, ↓sz_5, ↓sz_6, ↓o_neg, ↓o_abs, ↓o_toInt, ↓o_toIntb, ↓o_boolb, ↓o_boolT, ↓o_boolL, ↓o_max2, ↓o_min2, ↓o_lenL, ↓o_lenT, ↓o_lenK, ↓o_tupleL, ↓o_tupleT, ↓o_listL, ↓o_listT, ↓o_listmL, ↓o_listmT, ↓o_addT, ↓o_addL, ↓o_ixL, ↓o_ixT, ↓wpo_some, ↓wpo_ret, ↓wpo_bind,
      ix_0, ix_1, ix_2, tru_bl, tru_int, tru_non, tru_tup, tru_lst, isNon_int, isNon_non, isNon_tup,
      Option.isNone_none, Option.isNone_some, decide_true, decide_false, Int.reduceToNat, Int.reducePow, ↓nxt_nx, ↓nxt_rt, ↓nxt_bk, ↓nxt_ct, ↓nxt_ex, ↓lop_nx, ↓lop_rt, ↓lop_bk, ↓lop_ct, ↓lop_ex, ↓endF_nx, ↓endF_rt, ↓endT_nx, ↓endT_rt, ↓ix_pen, ↓st_pen1, ↓st_pen2, ↓isNon_oi, ↓fld_cs, ↓fld_ks, ↓is_cut, ↓is_key_of, ↓is_is_row, ↓cls_tbl, startE, wipeE, List.map_cons, List.map_nil, List.replicate, List.length_cons, List.length_nil, List.cons_append, List.nil_append, List.set_cons_zero, List.set_cons_succ, Nat.reduceAdd, Nat.reduceSub, true_and, and_true, ↓reduceIte, Bool.false_eq_true, Bool.not_true, Bool.not_false])
  | `(tactic| walk_at "v") => `(tactic| simp only [↓ws_nil, ↓ws_pass, ↓ws_brk, ↓ws_cnt, ↓ws_retN, ↓ws_ret, ↓ws_expr, ↓ws_set, ↓ws_asg, ↓ws_sub, ↓ws_fld, ↓ws_dput, ↓ws_par, ↓ws_par3, ↓ws_for, ↓ws_while,
      ↓wl_nil, ↓wl_cons, ↓wx_var, ↓wx_con, ↓wx_glb, ↓wx_bty, ↓wx_bin, ↓wx_cmp, ↓wx_ix, ↓wx_bt, ↓wx_tup, ↓wx_lst, ↓wx_neg, ↓wx_meth, ↓wx_fld, ↓wx_call, ↓wx_own, ↓wx_cmt, ↓wx_make, ↓wx_mkv, ↓wx_cval, ↓wx_opk, ↓wx_inv, ↓wx_ink, ↓wx_eqk, ↓wx_bok, ↓wx_srt, ↓wx_sset, ↓wx_lset, ↓wx_rpr, ↓wx_dcpy, ↓wx_dlst, ↓wx_dpr, ↓wx_rvs, ↓wx_dx, ↓wx_din, ↓wx_dqe, ↓wx_rp, ↓wx_callo, ↓wx_kfn, ↓wx_kmake, ↓wx_kown, ↓wx_kcmt, ↓wx_kmkv, ↓wag_lone, ↓wag_nil, ↓wag_f, ↓wag_tt, ↓wsq_nil, ↓wsq_f, ↓wsq_t, dropE_zero, dropE_succ, List.length_nil, ↓sqK_some, ↓seqO_lst, ↓seqO_tup, ↓seqO_klst, ↓wx_bmx, ↓wx_dzp, ↓wx_dct, ↓wx_dsp, ↓txK_some, ↓wx_slc_tt, ↓wx_slc_ft, ↓wx_slc_tf, ↓wx_slc_ff, ↓wx_and, ↓wx_or, ↓wx_not, ↓wx_ite, ↓wx_chain, ↓wx_comp,
      ↓wt_yes, ↓wt_var, ↓wt_con, ↓wt_glb, ↓wt_cmp, ↓wt_ink, ↓wt_eqk, ↓wt_bok, ↓wt_din, ↓wt_dqe, ↓wt_dx, ↓wt_callo, ↓wt_chain, ↓wt_bt, ↓wt_call, ↓wt_own, ↓wt_cmt, ↓wt_fld, ↓wt_ix, ↓wt_and, ↓wt_or, ↓wt_not, ↓wi_seq, ↓wi_rng1, ↓wi_rng2, ↓wi_rng3, ↓wi_enum, ↓wi_zip,
      ↓atE_zero, ↓atE_succ, ↓br_true, ↓br_false, ↓br_not, ↓sat_ok, ↓blK_bl, ↓intK_int, ↓truK_some, ↓stoK_some, ↓putK_one, ↓putK_two, ↓putK_three, ↓twoK_two, ↓threeK_three, ↓boolK_t, ↓boolK_f,
      ↓o_add, ↓o_sub, ↓o_mul, ↓o_fdiv, ↓o_mod, ↓o_pow, ↓o_lt, ↓o_le, ↓o_gt, ↓o_ge, ↓o_eq, ↓o_ne, ↓o_isn, ↓o_notn, ↓o_isb, ↓o_notb, ↓o_tup0, ↓o_lst0, ↓o_lstm0, ↓o_tup, ↓o_lst, ↓o_lstm, ↓sz_nil, ↓sz_1, ↓sz_2, ↓sz_3, ↓sz_4, ↓sz_5, ↓sz_6, ↓o_neg, ↓o_abs, ↓o_toInt, ↓o_toIntb, ↓o_boolb, ↓o_boolT, ↓o_boolL, ↓o_max2, ↓o_min2, ↓o_lenL, ↓o_lenT, ↓o_lenK, ↓o_tupleL, ↓o_tupleT, ↓o_listL, ↓o_listT, ↓o_listmL, ↓o_listmT, ↓o_addT, ↓o_addL, ↓o_ixL, ↓o_ixT, ↓wpo_some, ↓wpo_ret, ↓wpo_bind,
      ix_0, ix_1, ix_2, tru_bl, tru_int, tru_non, tru_tup, tru_lst, isNon_int, isNon_non, isNon_tup,
      Option.isNone_none, Option.isNone_some, decide_true, decide_false, Int.reduceToNat, Int.reducePow, ↓nxt_nx, ↓nxt_rt, ↓nxt_bk, ↓nxt_ct, ↓nxt_ex, ↓lop_nx, ↓lop_rt, ↓lop_bk, ↓lop_ct, ↓lop_ex, ↓endF_nx, ↓endF_rt, ↓endT_nx, ↓endT_rt, ↓ix_pen, ↓st_pen1, ↓st_pen2, ↓isNon_oi, ↓fld_cs, ↓fld_ks, ↓is_cut, ↓is_key_of, ↓is_is_row, ↓cls_tbl, startE, wipeE, List.map_cons, List.map_nil, List.replicate, List.length_cons, List.length_nil, List.cons_append, List.nil_append, List.set_cons_zero, List.set_cons_succ, Nat.reduceAdd, Nat.reduceSub, true_and, and_true, ↓reduceIte, Bool.false_eq_true, Bool.not_true, Bool.not_false])
variable {fu k : Nat} {s : Sto} {Q : D → Sto → Prop} {X : Xq} {cells : List Int} {n : Int} {p : D} {r : Sto}
theorem f_wrong_ok {t : Tbl} {rw_ : List (Option Int)} {a : Nat} (o : TOk t) (hl : rw_.length = t.cs.length) (h1 : 1 ≤ rw_.length) (h2 : rw_.length ≤ 100) (ha : a < rw_.length) (hk : none ∈ cut t.cs (rw_.set a none) t.ks) (hp : Pen cells n p) (hn : n + 2 < 2 ^ 20)
    (hq : ∀ ds p', (∀ d ∈ ds, NoRow t d) → ds.length ≤ 100 → Pen cells (n + 2) p' → Q (.lst ds) (p' :: r)) : @cl L.G (rawL L.G P fu (k + 3)) i__law_wrong [.ref 0, .tup (rw_.map oi), .int (a : Int)] (p :: r) Q X := by
  refine fn_cl rfl rfl rfl ?_
  unfold b__law_wrong
  try walk_at "w"
  refine ⟨by decide, ?_⟩
  refine f_draw_ok hp (by omega) (by decide) (by decide) fun v p2 v0 v1 hp2 => ?_
  try walk_at "w"
  obtain ⟨odd, ho1, ho2⟩ := atI_mem (ds := [D.bl true, D.bl false, D.str "0", D.str "", D.tup [], D.tup [D.int 0], D.lst [], D.dic [] []]) v0 v1
  rw [ho1]
  try walk_at "w"
  rw [List.length_map]
  refine f_draw_ok hp2 (by omega) (by omega) (logB (by omega)) fun w p3 w0 w1 hp3 => ?_
  try walk_at "w"
  have odd1 : Sim odd ∧ isV odd = false := by
    simp only [List.mem_cons, List.not_mem_nil, or_false] at ho2
    rcases ho2 with rfl | rfl | rfl | rfl | rfl | rfl | rfl | rfl <;> exact ⟨trivial, rfl⟩
  rw [slT_but (by rw [List.length_map]; exact h1)]
  try walk_at "w"
  have sz : ∀ {m : Nat}, m ≤ 1000 → m ≤ sizeLine := fun h => Nat.le_trans h (by decide)
  have lm : (rw_.map oi).length = rw_.length := List.length_map _
  refine ⟨sz (by rw [lm]; omega), sz (by decide), ?_⟩
  rw [slT_to]
  try walk_at "w"
  refine ⟨sz (by rw [List.length_take, lm]; omega), ?_⟩
  rw [show ((a : Int) + 1) = ((a + 1 : Nat) : Int) by omega, slT_from]
  try walk_at "w"
  refine ⟨sz (by simp only [List.length_append, List.length_take, List.length_drop, lm, List.length_cons, List.length_nil]; omega), ?_⟩
  have hw : ((w.toNat : Nat) : Int) = w := Int.toNat_of_nonneg w0
  have hw2 : w.toNat < rw_.length := by omega
  rw [← hw, slT_to]
  try walk_at "w"
  refine ⟨sz (by rw [List.length_take, lm]; omega), ?_⟩
  rw [show (((w.toNat : Nat) : Int) + 1) = ((w.toNat + 1 : Nat) : Int) by omega, slT_from]
  try walk_at "w"
  have tk : ∀ (j : Nat) (x : D), (List.take j (rw_.map oi) ++ [x] ++ List.drop (j + 1) (rw_.map oi)).length ≤ 201 := fun j x => by
    simp only [List.length_append, List.length_take, List.length_drop, lm, List.length_cons, List.length_nil]
    omega
  have tb : ∀ (m j : Nat) (x : D), bel m x = true → bels m (List.take j (rw_.map oi) ++ [x] ++ List.drop (j + 1) (rw_.map oi)) = true := fun m j x hx => by
    rw [← List.map_take, ← List.map_drop]
    exact bels_app (bels_app (ois_bel _ _) (by simp only [bels, hx, Bool.and_self])) (ois_bel _ _)
  refine ⟨sz (Nat.le_trans (Nat.le_of_eq (by rw [← List.length_append])) (Nat.le_trans (tk w.toNat odd) (by decide))), sz (by rw [lm]; omega), sz (by decide), by decide, by decide, by decide, rfl, ?_⟩
  refine lc_true D.int [10 ^ 30, 0 - 10 ^ 30, 10 ^ 59] (fun i => .tup (List.take w.toNat (rw_.map oi) ++ [.int i] ++ List.drop (w.toNat + 1) (rw_.map oi))) (fun s => rfl) (by decide) (fun i hi acc => ?_) (fun i hi => by simp only [bel]; exact tb _ _ _ (by simp only [bel])) ?_
  · try walk_at "w"
    rw [slT_to]
    try walk_at "w"
    refine ⟨sz (by rw [List.length_take, lm]; omega), ?_⟩
    rw [show (((w.toNat : Nat) : Int) + 1) = ((w.toNat + 1 : Nat) : Int) by omega, slT_from]
    try walk_at "w"
    exact sz (Nat.le_trans (Nat.le_of_eq (by rw [← List.length_append])) (Nat.le_trans (tk w.toNat (.int i)) (by decide)))
  · try walk_at "w"
    have ob : ∀ m, bel m odd = true := fun m => by
      simp only [List.mem_cons, List.not_mem_nil, or_false] at ho2
      rcases ho2 with rfl | rfl | rfl | rfl | rfl | rfl | rfl | rfl <;> rfl
    have dl : ∀ m, bels m (rw_.map oi).dropLast = true := fun m => by
      rw [← List.map_dropLast]
      exact ois_bel _ _
    refine ⟨sz (by decide), ?_⟩
    have ap : ∀ (m : Nat) (x : D), bel m x = true → bels m (rw_.map oi ++ [x]) = true := fun m x hx => bels_app (ois_bel _ _) (by simp only [bels, hx, Bool.and_self])
    have i0 : ∀ (m : Nat) (i : Int), bel m (.int i) = true := fun _ _ => by simp only [bel]
    have n0 : ∀ (m : Nat), bel m .non = true := fun _ => by simp only [bel]
    rw [lv_head0 hp3.free (by simp only [bel, bels, ois_bel, dl, ap _ _ (i0 _ 0), ap _ _ (n0 _), tb _ _ _ (n0 _), tb _ _ _ (ob _), tb _ _ _ (i0 _ _), Bool.and_self])]
    have st : ∀ (j : Nat) (x : D), Sim x → ∀ d ∈ List.take j (rw_.map oi) ++ [x] ++ List.drop (j + 1) (rw_.map oi), Sim d := fun j x hx d hd => by
      rcases List.mem_append.mp hd with hd | hd
      · rcases List.mem_append.mp hd with hd | hd
        · exact sim_row d (List.mem_of_mem_take hd)
        · rw [List.mem_singleton.mp hd]; exact hx
      · exact sim_row d (List.mem_of_mem_drop hd)
    have sa : ∀ (x : D), Sim x → ∀ d ∈ rw_.map oi ++ [x], Sim d := fun x hx d hd => by
      rcases List.mem_append.mp hd with hd | hd
      · exact sim_row d hd
      · rw [List.mem_singleton.mp hd]; exact hx
    have vl : ∀ (x : D), Sim x → isV x = false → NoRow t (.tup (List.take w.toNat (rw_.map oi) ++ [x] ++ List.drop (w.toNat + 1) (rw_.map oi))) := fun x h1 h2 => NoRow.val o (st _ x h1) (Nat.le_trans (tk _ _) (by decide)) (d := x) (by simp) h2
    refine hq _ p3 (fun d hd => ?_) (by show 16 ≤ 100; decide) (hp3.mono (by omega))
    simp only [List.mem_cons, List.not_mem_nil, or_false] at hd
    rcases hd with rfl | rfl | rfl | rfl | rfl | rfl | rfl | rfl | rfl | rfl | rfl | rfl | rfl | rfl | rfl | rfl
    · exact .notT trivial rfl
    · exact .len o (fun d hd => sim_row d (List.dropLast_subset _ hd)) (by rw [List.length_dropLast, lm]; omega) (by rw [List.length_dropLast, lm]; omega)
    · exact .len o (sa _ trivial) (by simp only [List.length_append, lm, List.length_cons, List.length_nil]; omega) (by simp only [List.length_append, lm, List.length_cons, List.length_nil]; omega)
    · exact .val o (fun d hd => by rw [List.mem_singleton.mp hd]; trivial) (by simp) (d := .tup (rw_.map oi)) (by simp) rfl
    · exact .notT trivial rfl
    · exact .notT trivial rfl
    · exact .notT trivial rfl
    · exact .notT trivial rfl
    · exact .notT trivial rfl
    · exact .len o (fun d hd => by cases hd) (by simp) (by simp only [List.length_nil]; omega)
    · have e : List.take a (rw_.map oi) ++ [D.non] ++ List.drop (a + 1) (rw_.map oi) = (rw_.set a none).map oi := by
        rw [set_cut _ _ _ (by rw [lm]; exact ha), List.map_set]
        rfl
      rw [e]
      exact .key o (by rw [List.length_set]; omega) hk
    · exact vl _ odd1.1 odd1.2
    · exact .len o (sa _ trivial) (by simp only [List.length_append, lm, List.length_cons, List.length_nil]; omega) (by simp only [List.length_append, lm, List.length_cons, List.length_nil]; omega)
    · exact vl _ trivial (by decide)
    · exact vl _ trivial (by decide)
    · exact vl _ trivial (by decide)
end Lw
end
section
set_option Elab.async false
set_option linter.all false
set_option maxRecDepth 100000
namespace Lw
open PySem Ir Tb
def stAt : Stms → Nat → Stms
  | ss, 0 => ss
  | .cons _ ss, n + 1 => stAt ss n
  | .nil, _ => .nil
def bdOf : Stms → Stms
  | .cons (.for_ _ _ b) _ => b
  | _ => .nil
def bTurn : Stms := bdOf (stAt b_law 1)
def bStep : Stms := bdOf (stAt bTurn 4)
local macro_rules
  | `(tactic| walk_at "w") => `(tactic| simp only [↓ws_nil, ↓ws_pass, ↓ws_brk, ↓ws_cnt, ↓ws_retN, ↓ws_ret, ↓ws_expr, ↓ws_set, ↓ws_asg, ↓ws_if, ↓ws_sub, ↓ws_fld, ↓ws_dput, ↓ws_par, ↓ws_par3, ↓ws_for, ↓ws_while,
      ↓wl_nil, ↓wl_cons, ↓wx_var, ↓wx_con, ↓wx_glb, ↓wx_bty, ↓wx_bin, ↓wx_cmp, ↓wx_ix, ↓wx_bt, ↓wx_tup, ↓wx_lst, ↓wx_neg, ↓wx_meth, ↓wx_fld, ↓wx_call, ↓wx_own, ↓wx_cmt, ↓wx_make, ↓wx_mkv, ↓wx_cval, ↓wx_opk, ↓wx_inv, ↓wx_ink, ↓wx_eqk, ↓wx_bok, ↓wx_srt, ↓wx_sset, ↓wx_lset, ↓wx_rpr, ↓wx_dcpy, ↓wx_dlst, ↓wx_dpr, ↓wx_rvs, ↓wx_dx, ↓wx_din, ↓wx_dqe, ↓wx_rp, ↓wx_callo, ↓wx_kfn, ↓wx_kmake, ↓wx_kown, ↓wx_kcmt, ↓wx_kmkv, ↓wag_lone, ↓wag_nil, ↓wag_f, ↓wag_tt, ↓wsq_nil, ↓wsq_f, ↓wsq_t, dropE_zero, dropE_succ, List.length_nil, ↓sqK_some, ↓seqO_lst, ↓seqO_tup, ↓seqO_klst, ↓wx_bmx, ↓wx_dzp, ↓wx_dct, ↓wx_dsp, ↓txK_some, ↓wx_slc_tt, ↓wx_slc_ft, ↓wx_slc_tf, ↓wx_slc_ff, ↓wx_and, ↓wx_or, ↓wx_not, ↓wx_ite, ↓wx_chain, ↓wx_comp,
      ↓wt_yes, ↓wt_var, ↓wt_con, ↓wt_glb, ↓wt_cmp, ↓wt_ink, ↓wt_eqk, ↓wt_bok, ↓wt_din, ↓wt_dqe, ↓wt_dx, ↓wt_callo, ↓wt_chain, ↓wt_bt, ↓wt_call, ↓wt_own, ↓wt_cmt, ↓wt_fld, ↓wt_ix, ↓wt_and, ↓wt_or, ↓wt_not, ↓wi_seq, ↓wi_rng1, ↓wi_rng2, ↓wi_rng3, ↓wi_enum, ↓wi_zip,
      ↓atE_zero, ↓atE_succ, ↓br_true, ↓br_false, ↓br_not, ↓sat_ok, ↓blK_bl, ↓intK_int, ↓truK_some, ↓stoK_some, ↓putK_one, ↓putK_two, ↓putK_three, ↓twoK_two, ↓threeK_three, ↓boolK_t, ↓boolK_f,
      ↓o_add, ↓o_sub, ↓o_mul, ↓o_fdiv, ↓o_mod, ↓o_pow, ↓o_lt, ↓o_le, ↓o_gt, ↓o_ge, ↓o_eq, ↓o_ne, ↓o_isn, ↓o_notn, ↓o_isb, ↓o_notb, ↓o_tup0, ↓o_lst0, ↓o_lstm0, ↓o_tup, ↓o_lst, ↓o_lstm, ↓sz_nil, ↓sz_1, ↓sz_2, ↓sz_3, ↓sz_4, ↓sz_5, ↓sz_6, ↓o_neg, ↓o_abs, ↓o_toInt, ↓o_toIntb, ↓o_boolb, ↓o_boolT, ↓o_boolL, ↓o_max2, ↓o_min2, ↓o_lenL, ↓o_lenT, ↓o_lenK, ↓o_tupleL, ↓o_tupleT, ↓o_listL, ↓o_listT, ↓o_listmL, ↓o_listmT, ↓o_addT, ↓o_addL, ↓o_ixL, ↓o_ixT, ↓wpo_some, ↓wpo_ret, ↓wpo_bind,
      ix_0, ix_1, ix_2, tru_bl, tru_int, tru_non, tru_tup, tru_lst, isNon_int, isNon_non, isNon_tup,
      Option.isNone_none, Option.isNone_some, decide_true, decide_false, Int.reduceToNat, Int.reducePow, ↓nxt_nx, ↓nxt_rt, ↓nxt_bk, ↓nxt_ct, ↓nxt_ex, ↓lop_nx, ↓lop_rt, ↓lop_bk, ↓lop_ct, ↓lop_ex, ↓endF_nx, ↓endF_rt, ↓endT_nx, ↓endT_rt, ↓ix_pen, ↓st_pen1, ↓st_pen2, ↓isNon_oi, ↓fld_cs, ↓fld_ks, ↓is_cut, ↓is_key_of, ↓is_is_row, ↓cls_tbl, startE, wipeE, List.map_cons, List.map_nil, List.replicate, List.length_cons, List.length_nil, List.cons_append, List.nil_append, List.set_cons_zero, List.set_cons_succ, Nat.reduceAdd, Nat.reduceSub, true_and, and_true, ↓reduceIte, Bool.false_eq_true, Bool.not_true, Bool.not_false])
  | `(tactic| walk_at "v") => `(tactic| simp only [↓ws_nil, ↓ws_pass, ↓ws_brk, ↓ws_cnt, ↓ws_retN, ↓ws_ret, ↓ws_expr, ↓ws_set, ↓ws_asg, ↓ws_sub, ↓ws_fld, ↓ws_dput, ↓ws_par, ↓ws_par3, ↓ws_for, ↓ws_while,
      ↓wl_nil, ↓wl_cons, ↓wx_var, ↓wx_con, ↓wx_glb, ↓wx_bty, ↓wx_bin, ↓wx_cmp, ↓wx_ix, ↓wx_bt, ↓wx_tup, ↓wx_lst, ↓wx_neg, ↓wx_meth, ↓wx_fld, ↓wx_call, ↓wx_own, ↓wx_cmt, ↓wx_make, ↓wx_mkv, ↓wx_cval, ↓wx_opk, ↓wx_inv, ↓wx_ink, ↓wx_eqk, ↓wx_bok, ↓wx_srt, ↓wx_sset, ↓wx_lset, ↓wx_rpr, ↓wx_dcpy, ↓wx_dlst, ↓wx_dpr, ↓wx_rvs, ↓wx_dx, ↓wx_din, ↓wx_dqe, ↓wx_rp, ↓wx_callo, ↓wx_kfn, ↓wx_kmake, ↓wx_kown, ↓wx_kcmt, ↓wx_kmkv, ↓wag_lone, ↓wag_nil, ↓wag_f, ↓wag_tt, ↓wsq_nil, ↓wsq_f, ↓wsq_t, dropE_zero, dropE_succ, List.length_nil, ↓sqK_some, ↓seqO_lst, ↓seqO_tup, ↓seqO_klst, ↓wx_bmx, ↓wx_dzp, ↓wx_dct, ↓wx_dsp, ↓txK_some, ↓wx_slc_tt, ↓wx_slc_ft, ↓wx_slc_tf, ↓wx_slc_ff, ↓wx_and, ↓wx_or, ↓wx_not, ↓wx_ite, ↓wx_chain, ↓wx_comp,
      ↓wt_yes, ↓wt_var, ↓wt_con, ↓wt_glb, ↓wt_cmp, ↓wt_ink, ↓wt_eqk, ↓wt_bok, ↓wt_din, ↓wt_dqe, ↓wt_dx, ↓wt_callo, ↓wt_chain, ↓wt_bt, ↓wt_call, ↓wt_own, ↓wt_cmt, ↓wt_fld, ↓wt_ix, ↓wt_and, ↓wt_or, ↓wt_not, ↓wi_seq, ↓wi_rng1, ↓wi_rng2, ↓wi_rng3, ↓wi_enum, ↓wi_zip,
      ↓atE_zero, ↓atE_succ, ↓br_true, ↓br_false, ↓br_not, ↓sat_ok, ↓blK_bl, ↓intK_int, ↓truK_some, ↓stoK_some, ↓putK_one, ↓putK_two, ↓putK_three, ↓twoK_two, ↓threeK_three, ↓boolK_t, ↓boolK_f,
      ↓o_add, ↓o_sub, ↓o_mul, ↓o_fdiv, ↓o_mod, ↓o_pow, ↓o_lt, ↓o_le, ↓o_gt, ↓o_ge, ↓o_eq, ↓o_ne, ↓o_isn, ↓o_notn, ↓o_isb, ↓o_notb, ↓o_tup0, ↓o_lst0, ↓o_lstm0, ↓o_tup, ↓o_lst, ↓o_lstm, ↓sz_nil, ↓sz_1, ↓sz_2, ↓sz_3, ↓sz_4, ↓sz_5, ↓sz_6, ↓o_neg, ↓o_abs, ↓o_toInt, ↓o_toIntb, ↓o_boolb, ↓o_boolT, ↓o_boolL, ↓o_max2, ↓o_min2, ↓o_lenL, ↓o_lenT, ↓o_lenK, ↓o_tupleL, ↓o_tupleT, ↓o_listL, ↓o_listT, ↓o_listmL, ↓o_listmT, ↓o_addT, ↓o_addL, ↓o_ixL, ↓o_ixT, ↓wpo_some, ↓wpo_ret, ↓wpo_bind,
      ix_0, ix_1, ix_2, tru_bl, tru_int, tru_non, tru_tup, tru_lst, isNon_int, isNon_non, isNon_tup,
      Option.isNone_none, Option.isNone_some, decide_true, decide_false, Int.reduceToNat, Int.reducePow, ↓nxt_nx, ↓nxt_rt, ↓nxt_bk, ↓nxt_ct, ↓nxt_ex, ↓lop_nx, ↓lop_rt, ↓lop_bk, ↓lop_ct, ↓lop_ex, ↓endF_nx, ↓endF_rt, ↓endT_nx, ↓endT_rt, ↓ix_pen, ↓st_pen1, ↓st_pen2, ↓isNon_oi, ↓fld_cs, ↓fld_ks, ↓is_cut, ↓is_key_of, ↓is_is_row, ↓cls_tbl, startE, wipeE, List.map_cons, List.map_nil, List.replicate, List.length_cons, List.length_nil, List.cons_append, List.nil_append, List.set_cons_zero, List.set_cons_succ, Nat.reduceAdd, Nat.reduceSub, true_and, and_true, ↓reduceIte, Bool.false_eq_true, Bool.not_true, Bool.not_false])
variable {fu k : Nat} {s : Sto} {Q : D → Sto → Prop} {X : Xq} {cells : List Int} {n : Int} {p : D} {r : Sto}
structure Rw (cs ky : List Str) (w : List (Option Int)) : Prop where
  len : w.length = cs.length
  bd : ∀ x ∈ w, inB x
  key : none ∉ cut cs w (among cs ky)
abbrev T0 (cs ky : List Str) : Tbl := mkT cs ky [] [] true
theorem Mk.tok {cs ky : List Str} (h : Mk cs ky [] []) : TOk (T0 cs ky) := ⟨h.nd, fun w hw => (List.mem_filter.mp hw).1, Nat.le_trans (List.length_filter_le _ _) (Nat.le_trans h.c4 (by decide))⟩
theorem pdL_str {s : Sto} {x : Str} (h : PyData.strOk x = true) : pdL s (.str x) = some (.str x) := by
  obtain ⟨p, e1, e2⟩ := pdL_of (s := s) (d := .str x) (n := 0) (okd_str h) (by decide)
  simp only [look, pd, Option.some.injEq] at e2
  rw [e1, e2]
theorem pdL_strs {s : Sto} {xs : List Str} (hx : allOk xs) : pdL s (.lst (xs.map D.str)) = some (.list (xs.map PyData.str)) := by
  obtain ⟨p, e1, e2⟩ := pdL_of (s := s) (d := .lst (xs.map D.str)) (n := 1) (okd_lst (okds_map fun x h => okd_str (hx x h))) (by decide)
  simp only [look, pd, pds_strs, Option.map_some, Option.some.injEq] at e2
  rw [e1, e2]
theorem firstP_strs {c : Str} : ∀ {xs : List Str}, c ∈ xs → ∃ i, firstP (.str c) (xs.map PyData.str) = some i ∧ xs[i]? = some c
  | [], h => by cases h
  | x :: xs, h => by
    simp only [List.map_cons, firstP, eqv_str, decide_eq_true_eq]
    by_cases e : x = c
    · rw [if_pos e]
      exact ⟨0, rfl, by rw [e]; rfl⟩
    · rw [if_neg e]
      obtain ⟨i, h1, h2⟩ := firstP_strs (xs := xs) ((List.mem_cons.mp h).resolve_left fun q => e q.symm)
      exact ⟨i + 1, by rw [h1]; rfl, by simpa using h2⟩
theorem o_lix {s : Sto} {c : Str} {cs : List Str} (ok : allOk cs) (h : c ∈ cs) : ∃ i, cs[i]? = some c ∧ ∀ Q : D → Sto → Prop, @wpo (Mb.g .lindex s (.lst (cs.map .str)) [.str c]) Q = Q (.int (i : Nat)) s := by
  obtain ⟨i, h1, h2⟩ := firstP_strs h
  refine ⟨i, h2, fun Q => ?_⟩
  show @wpo ((pdL s (.lst (cs.map .str))).bind fun p => (pdL s (.str c)).bind fun q => match p with
    | .list ps => (firstP q ps).bind fun j => ret s (.int j)
    | _ => none) Q = _
  rw [pdL_strs ok, pdL_str (ok c h)]
  show @wpo ((firstP (.str c) (cs.map PyData.str)).bind fun j => ret s (.int j)) Q = _
  rw [h1]
  rfl
theorem okd_row (w : List (Option Int)) : okd 1 (.tup (w.map oi)) := okd_tup (okds_map fun a _ => okd_oi a)
theorem ne_row {s : Sto} {Q : D → Sto → Prop} {a b : List (Option Int)} (h : a = b) : @wpo (ap2 .ne s (.tup (a.map oi)) (.tup (b.map oi))) Q = Q (.bl false) s := by
  subst h
  exact o_ne_same (okd_row _) rfl (by decide)
theorem ix_l {s : Sto} {Q : D → Sto → Prop} {ini : List D} {x : D} : @wpo (ap2 .ix s (.lst (ini ++ [x])) (.int (-1))) Q = Q x s := by
  rw [o_ixL, ix_last]
  rfl
theorem isTy_lst {s : Sto} {ds : List D} : isTy "list" s (.lst ds) = true := rfl
theorem step_c {cs ky : List Str} {w : List (Option Int)} {P0 : Pq} {e0 e2 e3 e7 e10 e11 e12 e13 e14 e15 e16 e17 : Option D} (h : Mk cs ky [] []) (hw : Rw cs ky w) (hp : Pen cells n p) (hn : n + 7 < 2 ^ 20)
    (hq : ∀ p' e12 e13 e15, Pen cells (n + 5) p' → P0.nx [e0, some (.ref 0), e2, e3, some (.lst (cs.map .str)), some (.tup (ky.map .str)), some (tbl (T0 cs ky)), e7, some (.tup (w.map oi)), some (.tup ((cut cs w (among cs ky)).map oi)), e10, e11, e12, e13, e14, e15, e16, e17] (p' :: r)) :
    @ws L.G (lev L.G P fu (k + 50)) (stAt bStep 5) [e0, some (.ref 0), e2, e3, some (.lst (cs.map .str)), some (.tup (ky.map .str)), some (tbl (T0 cs ky)), e7, some (.tup (w.map oi)), some (.tup ((cut cs w (among cs ky)).map oi)), e10, e11, e12, e13, e14, e15, e16, e17] (p :: r) P0 := by
  have o := h.tok
  simp only [bStep, bTurn, bdOf, stAt, b_law]
  try walk_at "w"
  refine f_some_ok (.inr rfl) h.ok h.nd h.c1 (Nat.le_trans h.c4 (by decide)) hp (by decide) (by decide) (by omega) fun ys p2 y1 y2 y3 y4 hp2 => ?_
  try walk_at "w"
  refine f_cut_ok o.nd hw.len.symm (.inl rfl) y4 (by omega) ?_
  try walk_at "w"
  refine ⟨rfl, ?_⟩
  refine lc_true D.str ys (fun c => oi (valOf cs w c)) (fun s => rfl) (Nat.le_trans (show ys.length ≤ 1000 by omega) (by decide)) (fun c hc acc => ?_) (fun a ha => oi_bel _ _) ?_
  · try walk_at "w"
    refine ⟨isTy_lst, ?_⟩
    try walk_at "w"
    obtain ⟨i, i1, i2⟩ := o_lix (s := p2 :: (r ++ [D.lst acc])) h.ok (y4 c hc)
    rw [i2]
    try walk_at "w"
    have hi : i < w.length := by rw [hw.len]; exact (List.getElem?_eq_some_iff.mp i1).1
    have e := valOf_at (r := w) h.nd i1 (List.getElem?_eq_getElem hi)
    rw [atI_nat (x := oi w[i]) (by rw [List.getElem?_map, List.getElem?_eq_getElem hi]; rfl)]
    try walk_at "w"
    rw [e]
    try exact ⟨rfl, rfl⟩
  · have e2 : ys.map (fun c => oi (valOf cs w c)) = (cut (T0 cs ky).cs w ys).map oi := by
      show _ = (ys.map (valOf cs w)).map oi
      rw [List.map_map]
      rfl
    rw [e2]
    try walk_at "w"
    rw [ne_row rfl]
    try walk_at "w"
    rw [isi_t (show Sim (.tup _) from trivial)]
    try walk_at "w"
    rw [show kT (.tup ((cut (T0 cs ky).cs w ys).map oi)) = true from rfl]
    try walk_at "w"
    refine f_cut_ok (t := T0 cs ky) o.nd hw.len.symm (.inl rfl) (fun _ h => h) (by show cs.length ≤ 1000; have := h.c4; omega) ?_
    have e3 : cut (T0 cs ky).cs w (T0 cs ky).cs = w := cut_all h.nd hw.len.symm
    rw [e3]
    try walk_at "w"
    rw [ne_row rfl]
    try walk_at "w"
    refine f_cut_ok (t := T0 cs ky) (ws := []) o.nd hw.len.symm (.inl rfl) (fun _ h => by cases h) (by simp) ?_
    try walk_at "w"
    rw [o_ne_same (n := 1) (d := .tup ((cut (T0 cs ky).cs w []).map oi)) (e := .tup []) (okd_row _) rfl (by decide)]
    try walk_at "w"
    refine f_cut_ok (t := T0 cs ky) (ws := (T0 cs ky).ks) o.nd hw.len.symm (.inl rfl) o.ks o.kl ?_
    try walk_at "w"
    rw [ne_row (a := cut (T0 cs ky).cs w (T0 cs ky).ks) (b := cut cs w (among cs ky)) rfl]
    try walk_at "w"
    exact hq _ _ _ _ (hp2.mono (by omega))
def Sh (cs ky : List Str) (w : List (Option Int)) (e : Ev) : Prop := ∃ e0 e2 e3 e7 e10 e11 e12 e13 e14 e15 e16 e17, e = [e0, some (.ref 0), e2, e3, some (.lst (cs.map .str)), some (.tup (ky.map .str)), some (tbl (T0 cs ky)), e7, some (.tup (w.map oi)), some (.tup ((cut cs w (among cs ky)).map oi)), e10, e11, e12, e13, e14, e15, e16, e17]
theorem enum_items {s : Sto} {cs : List Str} : (Itb.enum (.lst (cs.map .str))).items s = some ((cs.zipIdx).map fun q => .tup [.int (q.2 : Int), .str q.1]) := by
  show some (numb 0 (cs.map D.str)) = _
  rw [numb_map]
theorem none_key {cs ky : List Str} {w : List (Option Int)} {a : Nat} (h : Mk cs ky [] []) (hl : w.length = cs.length) {c : Str} (e : cs[a]? = some c) (hc : c ∈ ky) : none ∈ cut cs (w.set a none) (among cs ky) := none_in_key h.nd hl.symm e hc
theorem step_b {cs ky : List Str} {w : List (Option Int)} {P0 : Pq} {e0 e2 e3 e7 e10 e11 e12 e13 e14 e15 e16 e17 : Option D} (h : Mk cs ky [] []) (hw : Rw cs ky w) (hp : Pen cells n p) (hn : n + 12 < 2 ^ 20)
    (hq : ∀ p' e, Pen cells (n + 7) p' → Sh cs ky w e → P0.nx e (p' :: r)) :
    @ws L.G (lev L.G P fu (k + 50)) (stAt bStep 2) [e0, some (.ref 0), e2, e3, some (.lst (cs.map .str)), some (.tup (ky.map .str)), some (tbl (T0 cs ky)), e7, some (.tup (w.map oi)), some (.tup ((cut cs w (among cs ky)).map oi)), e10, e11, e12, e13, e14, e15, e16, e17] (p :: r) P0 := by
  have o := h.tok
  have lw : 1 ≤ w.length ∧ w.length ≤ 4 := by
    rw [hw.len]
    exact ⟨h.c1, h.c4⟩
  simp only [bStep, bTurn, bdOf, stAt, b_law]
  try walk_at "w"
  refine IsRow.ok o hw.len (by show cs.length ≤ 1000; have := h.c4; omega) hw.bd hw.key ?_
  try walk_at "w"
  refine f_key_of_ok o.nd hw.len.symm o.ks o.kl ?_
  try walk_at "w"
  rw [ne_row (a := cut (T0 cs ky).cs w (T0 cs ky).ks) (b := cut cs w (among cs ky)) rfl]
  try walk_at "w"
  refine ⟨rfl, ?_⟩
  refine lc_pure (fun q : Str × Nat => .tup [.int (q.2 : Int), .str q.1]) cs.zipIdx (fun q => decide (q.1 ∈ ky)) (fun q => .int (q.2 : Int)) (fun s => enum_items) (by rw [List.length_zipIdx]; exact Nat.le_trans h.c4 (by decide)) (fun q hq acc => ?_) (fun q hq => by simp only [bel]) ?_
  · have hq1 : q.1 ∈ cs := by
      obtain ⟨x, i⟩ := q
      exact List.mem_of_getElem? (List.mem_zipIdx_iff_getElem?.mp hq)
    try walk_at "w"
    rw [o_inS (h.ok _ hq1) (fun x hx => h.ok x (h.ks x hx))]
    try walk_at "w"
    exact fun _ => trivial
  · try walk_at "w"
    have hne : cs.zipIdx.filter (fun q => decide (q.1 ∈ ky)) ≠ [] := by
      obtain ⟨c, hc⟩ := List.exists_mem_of_length_pos h.k1
      obtain ⟨i, hi, e⟩ := List.getElem_of_mem (h.ks c hc)
      exact List.ne_nil_of_mem (a := (c, i)) (List.mem_filter.mpr ⟨List.mem_zipIdx_iff_getElem?.mpr (by rw [List.getElem?_eq_getElem hi, e]), by simpa using hc⟩)
    obtain ⟨ini, q, hl⟩ : ∃ ini q, cs.zipIdx.filter (fun q => decide (q.1 ∈ ky)) = ini ++ [q] := ⟨_, _, (List.dropLast_concat_getLast hne).symm⟩
    have hqm : q ∈ cs.zipIdx.filter (fun q => decide (q.1 ∈ ky)) := by rw [hl]; simp
    obtain ⟨c, a⟩ := q
    obtain ⟨hm1, hm2⟩ := List.mem_filter.mp hqm
    have hca := List.mem_zipIdx_iff_getElem?.mp hm1
    have hck : c ∈ ky := by simpa using hm2
    have hal : a < w.length := by
      rw [hw.len]
      exact (List.getElem?_eq_some_iff.mp hca).1
    rw [hl, List.map_append]
    rw [show [((c, a) : Str × Nat)].map (fun q : Str × Nat => D.int (q.2 : Int)) = [D.int (a : Int)] from rfl, ix_last]
    try walk_at "w"
    refine f_wrong_ok o hw.len lw.1 (by omega) hal (none_key h hw.len hca hck) hp (by omega) fun ds p2 d1 d2 hp2 => ?_
    try walk_at "w"
    refine ⟨rfl, ?_⟩
    refine lp_inv (id : D → D) ds (fun s => by rw [List.map_id]; rfl) (fun done _ env s' => s' = p2 :: r ∧ ∃ e11, env = [e0, some (.ref 0), e2, e3, some (.lst (cs.map .str)), some (.tup (ky.map .str)), some (tbl (T0 cs ky)), e7, some (.tup (w.map oi)), some (.tup ((cut cs w (among cs ky)).map oi)), some (.int (a : Int)), e11, e12, e13, e14, e15, e16, e17]) (fun done d rest env s' hd' h => ?_) (fun env s' h => ?_) _ _ ⟨rfl, _, rfl⟩
    · obtain ⟨rfl, e11, rfl⟩ := h
      try walk_at "w"
      refine d1 d (by rw [← hd']; simp) _ _ _ _ _ ?_
      try walk_at "w"
      first | exact ⟨rfl, _, rfl⟩ | exact ⟨_, rfl⟩
    · obtain ⟨rfl, e11, rfl⟩ := h
      exact step_c h hw hp2 (by omega) fun p3 a1 a2 a3 hp3 => hq _ _ (hp3.mono (by omega)) ⟨_, _, _, _, _, _, _, _, _, _, _, _, rfl⟩
def Sh0 (cs ky : List Str) (e : Ev) : Prop := ∃ e0 e2 e3 e7 e8 e9 e10 e11 e12 e13 e14 e15 e16 e17, e = [e0, some (.ref 0), e2, e3, some (.lst (cs.map .str)), some (.tup (ky.map .str)), some (tbl (T0 cs ky)), e7, e8, e9, e10, e11, e12, e13, e14, e15, e16, e17]
theorem zip_fix {s : Sto} {cs : List Str} {w : List (Option Int)} : (Itb.zip (.lst (cs.map .str)) (.tup (w.map oi))).items s = some ((cs.zip w).map fun q => .tup [.str q.1, oi q.2]) := by
  show some (((cs.map D.str).zip (w.map oi)).map fun p => D.tup [p.1, p.2]) = _
  rw [List.zip_map, List.map_map]
  rfl
theorem step_a {cs ky : List Str} {P0 : Pq} {e0 e2 e3 e7 e8 e9 e10 e11 e12 e13 e14 e15 e16 e17 : Option D} (h : Mk cs ky [] []) (hp : Pen cells n p) (hn : n + 24 < 2 ^ 20)
    (hq : ∀ p' e, Pen cells (n + 20) p' → Sh0 cs ky e → P0.nx e (p' :: r)) :
    @ws L.G (lev L.G P fu (k + 50)) bStep [e0, some (.ref 0), e2, e3, some (.lst (cs.map .str)), some (.tup (ky.map .str)), some (tbl (T0 cs ky)), e7, e8, e9, e10, e11, e12, e13, e14, e15, e16, e17] (p :: r) P0 := by
  have hf : bStep = .cons (.set 8 (match bStep with | .cons (.set 8 e) _ => e | _ => .no)) (.cons (.set 9 (match bStep with | .cons _ (.cons (.set 9 e) _) => e | _ => .no)) (stAt bStep 2)) := rfl
  rw [hf]
  generalize hb : stAt bStep 2 = tl0
  simp only [bStep, bTurn, bdOf, stAt, b_law]
  try walk_at "w"
  refine ⟨rfl, ?_⟩
  refine lc_inv D.str cs (fun s => rfl) (r.length + 1) (Nat.le_trans h.c4 (by decide)) (fun done _ acc s1 => ∃ p1 os, s1 = p1 :: r ∧ acc = os.map oi ∧ os.length = done.length ∧ (∀ x ∈ os, inB x) ∧ (∀ (i : Nat) (c : Str), done[i]? = some c → c ∈ ky → os[i]? ≠ some none) ∧ Pen cells (n + 2 * done.length) p1) (fun _ _ _ _ ⟨p1, os, e, _⟩ => by rw [e]; rfl) (fun done c rest acc s1 hd _ hI => ?_) _ (fun acc s3 hI => ?_) ⟨p, [], rfl, rfl, rfl, by simp, by simp, by simpa using hp⟩
  · obtain ⟨p1, os, rfl, rfl, i1, i2, i3, i4⟩ := hI
    have hc : c ∈ cs := by rw [← hd]; simp
    have hdl : done.length + 1 ≤ 4 := by
      have := congrArg List.length hd
      rw [List.length_append, List.length_cons] at this
      have := h.c4
      omega
    try walk_at "w"
    rw [o_inS (h.ok c hc) (fun x hx => h.ok x (h.ks x hx))]
    try walk_at "w"
    refine f_value_ok i4 (by omega) fun o p2 o1 o2 hp2 => ?_
    refine ⟨p2 :: r, rfl, p2, os ++ [o], rfl, by simp, by simp [i1], fun x hx => ?_, fun i c' e1 e2 => ?_, hp2.mono (by simp; omega)⟩
    · rcases List.mem_append.mp hx with hx | hx
      · exact i2 x hx
      · rw [List.mem_singleton.mp hx]; exact o1
    · by_cases hi : i < done.length
      · rw [List.getElem?_append_left hi] at e1
        rw [List.getElem?_append_left (by omega)]
        exact i3 i c' e1 e2
      · rw [List.getElem?_append_right (by omega)] at e1 ⊢
        have hi2 : i - done.length = 0 := by
          have := (List.getElem?_eq_some_iff.mp e1).1
          simpa using this
        rw [hi2] at e1
        rw [show i - os.length = 0 by omega]
        simp only [List.getElem?_cons_zero, Option.some.injEq] at e1 ⊢
        subst e1
        exact fun e => o2 (decide_eq_true e2) (Option.some.inj e)
  · obtain ⟨p1, os, rfl, rfl, i1, i2, i3, i4⟩ := hI
    have hw : Rw cs ky os := by
      refine ⟨i1, i2, fun hn0 => ?_⟩
      obtain ⟨c, c1, c2⟩ := List.mem_map.mp hn0
      obtain ⟨c3, c4⟩ := List.mem_filter.mp c1
      obtain ⟨i, hi, e⟩ := List.getElem_of_mem c3
      have e1 : cs[i]? = some c := by rw [List.getElem?_eq_getElem hi, e]
      have e2 : os[i]? = some os[i] := List.getElem?_eq_getElem (by omega)
      have := valOf_at h.nd e1 e2
      rw [this] at c2
      rw [c2] at e2
      exact i3 i c e1 (by simpa using c4) e2
    have l4 := h.c4
    try walk_at "w"
    rw [lv_headN i4.free (ois_bel _ _)]
    try walk_at "w"
    refine ⟨rfl, ?_⟩
    refine lc_pure (fun q : Str × Option Int => .tup [.str q.1, oi q.2]) (cs.zip os) (fun q => decide (q.1 ∈ ky)) (fun q => oi q.2) (fun s => zip_fix) (by rw [List.length_zip]; exact Nat.le_trans (Nat.le_trans (Nat.min_le_left _ _) l4) (by decide)) (fun q hq acc => ?_) (fun q hq => oi_bel _ _) ?_
    · have hq1 : q.1 ∈ cs := (List.of_mem_zip (a := q.1) (b := q.2) hq).1
      try walk_at "w"
      rw [o_inS (h.ok _ hq1) (fun x hx => h.ok x (h.ks x hx))]
      try walk_at "w"
      exact fun _ => trivial
    · have e : ((cs.zip os).filter fun q => decide (q.1 ∈ ky)).map (fun q => oi q.2) = (cut cs os (among cs ky)).map oi := by
        have z := congrArg (List.map oi) (zip_cut h.nd i1.symm fun c => decide (c ∈ ky))
        rw [List.map_map] at z
        exact z
      rw [e]
      try walk_at "w"
      subst hb
      refine step_b h hw i4 (by omega) fun p2 e2 hp2 hs => hq p2 e2 (hp2.mono (by omega)) ?_
      obtain ⟨f0, f2, f3, f7, f10, f11, f12, f13, f14, f15, f16, f17, rfl⟩ := hs
      exact ⟨_, _, _, _, _, _, _, _, _, _, _, _, _, _, rfl⟩
end Lw
end
section
set_option Elab.async false
set_option linter.all false
set_option maxRecDepth 100000
namespace Lw
open PySem Ir Tb
abbrev names8 : List Str := ["k", "r", "u", "key", "in", "a", "b", "once"]
theorem n8_nd : names8.Nodup := by decide +kernel
theorem n8_ok : allOk names8 := by
  have : names8.all PyData.strOk = true := by decide +kernel
  exact fun x hx => List.all_eq_true.mp this x hx
theorem n8_nm : ∀ x ∈ names8, isName x = true := by
  have : names8.all isName = true := by decide +kernel
  exact fun x hx => List.all_eq_true.mp this x hx
theorem okAll_2 {p p2 a b : D} {r t : Sto} (h : free p2 = true) (k : free b = true) : okAll (p :: (r ++ [a])) (p2 :: (r ++ [b] ++ t)) = true := by
  refine okAll_hd h ?_
  rw [List.append_assoc]
  exact okAll_upd r a b t k
local macro_rules
  | `(tactic| walk_at "w") => `(tactic| simp only [↓ws_nil, ↓ws_pass, ↓ws_brk, ↓ws_cnt, ↓ws_retN, ↓ws_ret, ↓ws_expr, ↓ws_set, ↓ws_asg, ↓ws_if, ↓ws_sub, ↓ws_fld, ↓ws_dput, ↓ws_par, ↓ws_par3, ↓ws_for, ↓ws_while,
      ↓wl_nil, ↓wl_cons, ↓wx_var, ↓wx_con, ↓wx_glb, ↓wx_bty, ↓wx_bin, ↓wx_cmp, ↓wx_ix, ↓wx_bt, ↓wx_tup, ↓wx_lst, ↓wx_neg, ↓wx_meth, ↓wx_fld, ↓wx_call, ↓wx_own, ↓wx_cmt, ↓wx_make, ↓wx_mkv, ↓wx_cval, ↓wx_opk, ↓wx_inv, ↓wx_ink, ↓wx_eqk, ↓wx_bok, ↓wx_srt, ↓wx_sset, ↓wx_lset, ↓wx_rpr, ↓wx_dcpy, ↓wx_dlst, ↓wx_dpr, ↓wx_rvs, ↓wx_dx, ↓wx_din, ↓wx_dqe, ↓wx_rp, ↓wx_callo, ↓wx_kfn, ↓wx_kmake, ↓wx_kown, ↓wx_kcmt, ↓wx_kmkv, ↓wag_lone, ↓wag_nil, ↓wag_f, ↓wag_tt, ↓wsq_nil, ↓wsq_f, ↓wsq_t, dropE_zero, dropE_succ, List.length_nil, ↓sqK_some, ↓seqO_lst, ↓seqO_tup, ↓seqO_klst, ↓wx_bmx, ↓wx_dzp, ↓wx_dct, ↓wx_dsp, ↓txK_some, ↓wx_slc_tt, ↓wx_slc_ft, ↓wx_slc_tf, ↓wx_slc_ff, ↓wx_and, ↓wx_or, ↓wx_not, ↓wx_ite, ↓wx_chain, ↓wx_comp,
      ↓wt_yes, ↓wt_var, ↓wt_con, ↓wt_glb, ↓wt_cmp, ↓wt_ink, ↓wt_eqk, ↓wt_bok, ↓wt_din, ↓wt_dqe, ↓wt_dx, ↓wt_callo, ↓wt_chain, ↓wt_bt, ↓wt_call, ↓wt_own, ↓wt_cmt, ↓wt_fld, ↓wt_ix, ↓wt_and, ↓wt_or, ↓wt_not, ↓wi_seq, ↓wi_rng1, ↓wi_rng2, ↓wi_rng3, ↓wi_enum, ↓wi_zip,
      ↓atE_zero, ↓atE_succ, ↓br_true, ↓br_false, ↓br_not, ↓sat_ok, ↓blK_bl, ↓intK_int, ↓truK_some, ↓stoK_some, ↓putK_one, ↓putK_two, ↓putK_three, ↓twoK_two, ↓threeK_three, ↓boolK_t, ↓boolK_f,
      ↓o_add, ↓o_sub, ↓o_mul, ↓o_fdiv, ↓o_mod, ↓o_pow, ↓o_lt, ↓o_le, ↓o_gt, ↓o_ge, ↓o_eq, ↓o_ne, ↓o_isn, ↓o_notn, ↓o_isb, ↓o_notb, ↓o_tup0, ↓o_lst0, ↓o_lstm0, ↓o_tup, ↓o_lst, ↓o_lstm, ↓sz_nil, ↓sz_1, ↓sz_2, ↓sz_3, ↓sz_4, ↓sz_5, ↓sz_6, ↓o_neg, ↓o_abs, ↓o_toInt, ↓o_toIntb, ↓o_boolb, ↓o_boolT, ↓o_boolL, ↓o_max2, ↓o_min2, ↓o_lenL, ↓o_lenT, ↓o_lenK, ↓o_tupleL, ↓o_tupleT, ↓o_listL, ↓o_listT, ↓o_listmL, ↓o_listmT, ↓o_addT, ↓o_addL, ↓o_ixL, ↓o_ixT, ↓wpo_some, ↓wpo_ret, ↓wpo_bind,
      ix_0, ix_1, ix_2, tru_bl, tru_int, tru_non, tru_tup, tru_lst, isNon_int, isNon_non, isNon_tup,
      Option.isNone_none, Option.isNone_some, decide_true, decide_false, Int.reduceToNat, Int.reducePow, ↓nxt_nx, ↓nxt_rt, ↓nxt_bk, ↓nxt_ct, ↓nxt_ex, ↓lop_nx, ↓lop_rt, ↓lop_bk, ↓lop_ct, ↓lop_ex, ↓endF_nx, ↓endF_rt, ↓endT_nx, ↓endT_rt, ↓ix_pen, ↓st_pen1, ↓st_pen2, ↓isNon_oi, ↓fld_cs, ↓fld_ks, ↓is_cut, ↓is_key_of, ↓is_is_row, ↓cls_tbl, startE, wipeE, List.map_cons, List.map_nil, List.replicate, List.length_cons, List.length_nil, List.cons_append, List.nil_append, List.set_cons_zero, List.set_cons_succ, Nat.reduceAdd, Nat.reduceSub, true_and, and_true, ↓reduceIte, Bool.false_eq_true, Bool.not_true, Bool.not_false])
  | `(tactic| walk_at "v") => `(tactic| simp only [↓ws_nil, ↓ws_pass, ↓ws_brk, ↓ws_cnt, ↓ws_retN, ↓ws_ret, ↓ws_expr, ↓ws_set, ↓ws_asg, ↓ws_sub, ↓ws_fld, ↓ws_dput, ↓ws_par, ↓ws_par3, ↓ws_for, ↓ws_while,
      ↓wl_nil, ↓wl_cons, ↓wx_var, ↓wx_con, ↓wx_glb, ↓wx_bty, ↓wx_bin, ↓wx_cmp, ↓wx_ix, ↓wx_bt, ↓wx_tup, ↓wx_lst, ↓wx_neg, ↓wx_meth, ↓wx_fld, ↓wx_call, ↓wx_own, ↓wx_cmt, ↓wx_make, ↓wx_mkv, ↓wx_cval, ↓wx_opk, ↓wx_inv, ↓wx_ink, ↓wx_eqk, ↓wx_bok, ↓wx_srt, ↓wx_sset, ↓wx_lset, ↓wx_rpr, ↓wx_dcpy, ↓wx_dlst, ↓wx_dpr, ↓wx_rvs, ↓wx_dx, ↓wx_din, ↓wx_dqe, ↓wx_rp, ↓wx_callo, ↓wx_kfn, ↓wx_kmake, ↓wx_kown, ↓wx_kcmt, ↓wx_kmkv, ↓wag_lone, ↓wag_nil, ↓wag_f, ↓wag_tt, ↓wsq_nil, ↓wsq_f, ↓wsq_t, dropE_zero, dropE_succ, List.length_nil, ↓sqK_some, ↓seqO_lst, ↓seqO_tup, ↓seqO_klst, ↓wx_bmx, ↓wx_dzp, ↓wx_dct, ↓wx_dsp, ↓txK_some, ↓wx_slc_tt, ↓wx_slc_ft, ↓wx_slc_tf, ↓wx_slc_ff, ↓wx_and, ↓wx_or, ↓wx_not, ↓wx_ite, ↓wx_chain, ↓wx_comp,
      ↓wt_yes, ↓wt_var, ↓wt_con, ↓wt_glb, ↓wt_cmp, ↓wt_ink, ↓wt_eqk, ↓wt_bok, ↓wt_din, ↓wt_dqe, ↓wt_dx, ↓wt_callo, ↓wt_chain, ↓wt_bt, ↓wt_call, ↓wt_own, ↓wt_cmt, ↓wt_fld, ↓wt_ix, ↓wt_and, ↓wt_or, ↓wt_not, ↓wi_seq, ↓wi_rng1, ↓wi_rng2, ↓wi_rng3, ↓wi_enum, ↓wi_zip,
      ↓atE_zero, ↓atE_succ, ↓br_true, ↓br_false, ↓br_not, ↓sat_ok, ↓blK_bl, ↓intK_int, ↓truK_some, ↓stoK_some, ↓putK_one, ↓putK_two, ↓putK_three, ↓twoK_two, ↓threeK_three, ↓boolK_t, ↓boolK_f,
      ↓o_add, ↓o_sub, ↓o_mul, ↓o_fdiv, ↓o_mod, ↓o_pow, ↓o_lt, ↓o_le, ↓o_gt, ↓o_ge, ↓o_eq, ↓o_ne, ↓o_isn, ↓o_notn, ↓o_isb, ↓o_notb, ↓o_tup0, ↓o_lst0, ↓o_lstm0, ↓o_tup, ↓o_lst, ↓o_lstm, ↓sz_nil, ↓sz_1, ↓sz_2, ↓sz_3, ↓sz_4, ↓sz_5, ↓sz_6, ↓o_neg, ↓o_abs, ↓o_toInt, ↓o_toIntb, ↓o_boolb, ↓o_boolT, ↓o_boolL, ↓o_max2, ↓o_min2, ↓o_lenL, ↓o_lenT, ↓o_lenK, ↓o_tupleL, ↓o_tupleT, ↓o_listL, ↓o_listT, ↓o_listmL, ↓o_listmT, ↓o_addT, ↓o_addL, ↓o_ixL, ↓o_ixT, ↓wpo_some, ↓wpo_ret, ↓wpo_bind,
      ix_0, ix_1, ix_2, tru_bl, tru_int, tru_non, tru_tup, tru_lst, isNon_int, isNon_non, isNon_tup,
      Option.isNone_none, Option.isNone_some, decide_true, decide_false, Int.reduceToNat, Int.reducePow, ↓nxt_nx, ↓nxt_rt, ↓nxt_bk, ↓nxt_ct, ↓nxt_ex, ↓lop_nx, ↓lop_rt, ↓lop_bk, ↓lop_ct, ↓lop_ex, ↓endF_nx, ↓endF_rt, ↓endT_nx, ↓endT_rt, ↓ix_pen, ↓st_pen1, ↓st_pen2, ↓isNon_oi, ↓fld_cs, ↓fld_ks, ↓is_cut, ↓is_key_of, ↓is_is_row, ↓cls_tbl, startE, wipeE, List.map_cons, List.map_nil, List.replicate, List.length_cons, List.length_nil, List.cons_append, List.nil_append, List.set_cons_zero, List.set_cons_succ, Nat.reduceAdd, Nat.reduceSub, true_and, and_true, ↓reduceIte, Bool.false_eq_true, Bool.not_true, Bool.not_false])
variable {fu k : Nat} {s : Sto} {Q : D → Sto → Prop} {X : Xq} {cells : List Int} {n : Int} {p : D} {r : Sto}
def ShT (e : Ev) : Prop := ∃ e0 e2 e3 e4 e5 e6 e7 e8 e9 e10 e11 e12 e13 e14 e15 e16 e17, e = [e0, some (.ref 0), e2, e3, e4, e5, e6, e7, e8, e9, e10, e11, e12, e13, e14, e15, e16, e17]
theorem turn_ok {P0 : Pq} {e : Ev} (he : ShT e) (hp : Pen cells n p) (hn : n + 110 < 2 ^ 20)
    (hq : ∀ p' r' e, Pen cells (n + 100) p' → ShT e → P0.nx e (p' :: r')) :
    @ws L.G (lev L.G P fu (k + 50)) bTurn e (p :: r) P0 := by
  obtain ⟨e0, e2, e3, e4, e5, e6, e7, e8, e9, e10, e11, e12, e13, e14, e15, e16, e17, rfl⟩ := he
  have hf : bTurn = .cons (.set 3 (match bTurn with | .cons (.set 3 e) _ => e | _ => .no)) (.cons (.set 4 (match bTurn with | .cons _ (.cons (.set 4 e) _) => e | _ => .no)) (.cons (.set 5 (match bTurn with | .cons _ (.cons _ (.cons (.set 5 e) _)) => e | _ => .no)) (.cons (.set 6 (match bTurn with | .cons _ (.cons _ (.cons _ (.cons (.set 6 e) _))) => e | _ => .no)) (.cons (.for_ (.one 7) (.rng (.cons (.con (.int 4)) .nil)) bStep) .nil)))) := rfl
  rw [hf]
  generalize hb : bStep = bs
  simp only [bTurn, bdOf, stAt, b_law]
  try walk_at "w"
  refine ⟨by show 8 ≤ sizeLine; decide, ?_⟩
  refine f_draw_ok hp (by omega) (by decide) (by decide) fun v p2 v0 v1 hp2 => ?_
  try walk_at "w"
  refine ⟨by unfold rOk; rw [decide_eq_true (by omega), decide_eq_true (by omega)]; rfl, ?_⟩
  have sl : (1 + v).toNat ≤ 4 := by omega
  refine lc_inv (fun (i : Nat) => D.int (i : Int)) (List.range (1 + v).toNat) (fun s => by show some _ = some _; rw [rng_map]) (r.length + 1 + 1) (by rw [List.length_range]; exact Nat.le_trans sl (by decide)) (fun done _ acc s1 => ∃ p1 lf cs, s1 = p1 :: (r ++ [.lst (lf.map .str)]) ∧ acc = cs.map .str ∧ (cs ++ lf : List Str).Perm names8 ∧ cs.length = done.length ∧ Pen cells (n + 1 + done.length) p1) (fun _ _ _ _ ⟨p1, lf, cs, e, _⟩ => by rw [e]; simp) (fun done x rest acc s1 hd _ hI => ?_) _ (fun acc s3 hI => ?_) ⟨p2, names8, [], rfl, rfl, .refl _, rfl, by simpa using hp2⟩
  · obtain ⟨p1, lf, cs, rfl, rfl, i1, i2, i3⟩ := hI
    have hdl : done.length + 1 ≤ 4 := by
      have := congrArg List.length hd
      simp at this
      omega
    have l8 := i1.length_eq
    rw [List.length_append] at l8
    replace l8 : cs.length + lf.length = 8 := l8
    try walk_at "w"
    refine ⟨isTy_at at2a, ?_⟩
    rw [o_lenR at2a]
    try walk_at "w"
    rw [List.length_map]
    refine f_draw_ok i3 (by omega) (by omega) (logB (by omega)) fun w p4 w0 w1 hp4 => ?_
    have hw : w.toNat < lf.length := by omega
    try walk_at "w"
    rw [o_popAt (x := .str lf[w.toNat]) at2a w0 (by rw [List.length_map]; exact w1) (by rw [List.length_map]; omega) (by rw [List.getElem?_map, List.getElem?_eq_getElem hw]; rfl)]
    try walk_at "w"
    rw [set2a, map_erase]
    refine ⟨p4 :: (r ++ [.lst ((lf.eraseIdx w.toNat).map .str)]), by simp, p4, lf.eraseIdx w.toNat, cs ++ [lf[w.toNat]], rfl, by simp, ?_, by simp [i2], by simpa [Int.add_assoc] using hp4⟩
    rw [List.append_assoc]
    exact ((perm_erase lf w.toNat hw).append_left cs).trans i1
  · obtain ⟨p1, lf, cs, rfl, rfl, i1, i2, i3⟩ := hI
    rw [List.length_range] at i2 i3
    have nd : (cs ++ lf).Nodup := i1.nodup_iff.mpr n8_nd
    have sub : ∀ c ∈ cs, c ∈ names8 := fun c hc => i1.subset (by simp [hc])
    have cok : allOk cs := fun c hc => n8_ok c (sub c hc)
    have cnd := (List.nodup_append.mp nd).1
    simp only [Bool.false_eq_true, if_false]
    have e : r.length + 1 + 1 = (p2 :: (r ++ [D.lst (names8.map .str)])).length := by simp
    rw [e]
    refine (lv_W (s := p2 :: (r ++ [D.lst (names8.map .str)])) (w := p1 :: (r ++ [.lst (lf.map .str)])) (okAll_2 (t := [.lst (cs.map .str)]) i3.free (by show bel 0 _ = true; simp only [bel, strs_bel])) (by simp) (strs_bel _ _)).mpr ?_
    try walk_at "w"
    have c1 : 1 ≤ cs.length := by omega
    have c4 : cs.length ≤ 4 := by omega
    refine f_some_ok (.inr rfl) cok cnd c1 (by omega) i3 (by decide) (by decide) (by omega) fun ky p3 y1 y2 y3 y4 hp3 => ?_
    have mk : Mk cs ky [] [] := ⟨cok, c1, c4, fun c hc => n8_nm c (sub c hc), cnd, y2, by omega, y1, y4, by simp, by simp, by simp, by simp⟩
    try walk_at "w"
    refine Table_of_ok mk (.inr rfl) (.inl rfl) ?_
    try walk_at "w"
    refine ⟨rfl, ?_⟩
    subst hb
    refine lp_inv (fun (i : Nat) => D.int (i : Int)) (List.range 4) (fun s => by show some _ = some _; rw [← rng_map]) (fun done _ env s' => ∃ p4, s' = p4 :: (r ++ [D.lst (lf.map .str)]) ∧ Pen cells (n + 8 + 20 * done.length) p4 ∧ Sh0 cs ky env) (fun done x rest env s' hd hI => ?_) (fun env s' hI => ?_) _ _ ⟨p3, rfl, hp3.mono (by simp; omega), _, _, _, _, _, _, _, _, _, _, _, _, _, _, rfl⟩
    · obtain ⟨p4, rfl, hp4, f0, f2, f3, f7, f8, f9, f10, f11, f12, f13, f14, f15, f16, f17, rfl⟩ := hI
      have hdl : done.length + 1 ≤ 4 := by
        have := congrArg List.length hd
        simp at this
        omega
      try walk_at "w"
      refine step_a mk hp4 (by omega) fun p5 e5 hp5 hs => ?_
      exact ⟨p5, rfl, hp5.mono (by simp; omega), hs⟩
    · obtain ⟨p4, rfl, hp4, f0, f2, f3, f7, f8, f9, f10, f11, f12, f13, f14, f15, f16, f17, rfl⟩ := hI
      rw [List.length_range] at hp4
      exact hq _ _ _ (hp4.mono (by omega)) ⟨_, _, _, _, _, _, _, _, _, _, _, _, _, _, _, _, _, rfl⟩
theorem law_k10 {ns : List Int} {d : D} (hd : d = .klst (ns.map .int) ∨ d = .lst (ns.map .int)) : @cl L.G (rawL L.G P fu (k + 52)) i_law [d] [] (fun (x : D) (_ : Sto) => x = D.bl true) noX := by
  refine fn_cl rfl rfl rfl ?_
  have hf : b_law = .cons (.set 1 (.x (.call i__law_pen) (.cons (.var 0) .nil))) (.cons (.for_ (.one 2) (.rng (.cons (.con (.int 4)) .nil)) bTurn) (.cons (.ret (.con (.bl true))) .nil)) := rfl
  rw [hf]
  generalize hb : bTurn = bt
  try walk_at "w"
  refine f_pen_ok hd fun cells p hp => ?_
  try walk_at "w"
  refine ⟨rfl, ?_⟩
  subst hb
  refine lp_inv (fun (i : Nat) => D.int (i : Int)) (List.range 4) (fun s => by show some _ = some _; rw [← rng_map]) (fun done _ env s' => ∃ p4 r, s' = p4 :: r ∧ Pen cells (100 * done.length) p4 ∧ ShT env) (fun done x rest env s' hd hI => ?_) (fun env s' hI => ?_) _ _ ⟨p, [], rfl, hp.mono (by simp), _, _, _, _, _, _, _, _, _, _, _, _, _, _, _, _, _, rfl⟩
  · obtain ⟨p4, r4, rfl, hp4, f0, f2, f3, f4, f5, f6, f7, f8, f9, f10, f11, f12, f13, f14, f15, f16, f17, rfl⟩ := hI
    have hdl : done.length + 1 ≤ 4 := by
      have := congrArg List.length hd
      simp at this
      omega
    try walk_at "w"
    refine turn_ok ⟨_, _, _, _, _, _, _, _, _, _, _, _, _, _, _, _, _, rfl⟩ hp4 (by omega) fun p5 r5 e5 hp5 hs => ?_
    exact ⟨p5, r5, rfl, hp5.mono (by simp; omega), hs⟩
  · obtain ⟨p4, r4, rfl, hp4, f0, f2, f3, f4, f5, f6, f7, f8, f9, f10, f11, f12, f13, f14, f15, f16, f17, rfl⟩ := hI
    try walk_at "w"
    have e : leave [] (p4 :: r4) (D.bl true) = .ok (D.bl true) [] := by
      unfold leave fz
      rw [if_pos (by simp only [bel])]
      rfl
    unfold lv
    rw [e]
    rfl
theorem plain (ns : List Int) (d : D) (hd : d = .klst (ns.map .int) ∨ d = .lst (ns.map .int)) : ∃ s', rawL L.G P 5000 52 0 [d] [] = .ok (.bl true) s' := by
  have h := law_k10 (fu := 5000) (k := 0) hd
  have h2 : (rawL L.G P 5000 52 0 [d] []).sat (fun (d : D) (_ : Sto) => d = .bl true) noX := h
  cases hr : rawL L.G P 5000 52 0 [d] [] with
  | ok v s => rw [hr] at h2; exact ⟨s, by rw [show v = .bl true from h2]⟩
  | ex _ _ _ => rw [hr] at h2; exact h2.elim
  | bad => rw [hr] at h2; exact h2.elim
end Lw
end
set_option Elab.async false
theorem PySem.Challenge.cw_speaklast_k10_rows_of_tables_holds : PySem.Challenge.rw_speaklast_k10_rows_of_tables.Holds :=
  Lw.holds 5000 50 ⟨⟨rfl, by decide, by decide⟩, rfl⟩ fun ns d _ _ hd => Lw.plain ns d hd
