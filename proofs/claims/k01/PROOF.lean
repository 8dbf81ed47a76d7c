import PyProof.Rows.All
import Wide.All
import OpenK.AllK
import Wide.FinOn
import PyProof.EqAt
import PyProof.EqKinds
import PyProof.TupleCall
import HandS.ForMost
import HandS.ForExc
import HandS.IsInst
import HandS.TupAny
import HandS.TupMul
import HandS.Style
import HandS.More
import HandS.RevTup
import HandS.Rev
import HandS.Deep
import HandS.DictComp
import HandS.SetKeys
import HandS.Conv
import HandS.Flow
import HandS.Small
import HandS.ExcInit
import HandS.ExcField
import HandS.ExcIs
import HandS.Defaults
import HandS.ExcOwn
import HandS.EndBits
import HandS.HeadEnd
import HandS.HeadHook1
import HandS.HeadHook2
import HandS.Words
import HandS.Head0
import HandS.Head1
import HandS.Head2
import KE.KStateDown
import HandS.WordsExc
import PySem.Challenge.RW_letgo_k01_errors_apart
set_option Elab.async false
set_option linter.all false
set_option maxRecDepth 100000
/-! G1: values of the interpreter, its store, and how they stand in the abstract heap. -/
namespace LG
open PySem L2

inductive Vl where
  | non
  | bl (b : Bool)
  | int (i : Int)
  | str (s : Str)
  | tup (xs : List Vl)
  | lst (xs : List Vl)
  | bor (xs : List Vl)
  | scr (xs : List Vl)
  | dk (kvs : List (Key × Vl))
  | dt (kvs : List (List Key × Vl))
  | obj (i : Nat)
  | glb (n : Str)
  | ty (n : String)
  | err (n : Str) (x : Vl)
  deriving Inhabited

inductive Ob where
  | lst (xs : List Vl)
  | dk (kvs : List (Key × Vl))
  | dt (kvs : List (List Key × Vl))
  | ins (c : Str) (fs : List (Str × Vl))
  deriving Inhabited

abbrev Sto := List Ob

structure Gh where
  mu : Nat → Option Addr
  mt : Addr → Prop
  sub : ∀ i a, mu i = some a → mt a

/-- the attribute of an error of the program's -/
def attrOf : Str → Str := fun n =>
  if n = "BadProgram" ∨ n = "NoProcedure" then "name" else if n = "BadPoint" then "point" else if n = "TooMany" then "most" else if n = "BadText" then "row" else "index"
/-- an error at a: its class, its dict -/
def errO (a C d : Addr) : HO := .ext fun h => ∃ (oe : Obj) (vs : Array Value), h.get? a = some oe ∧ oe.cls = .ref C ∧ oe.dict = some d ∧ oe.data = .fields vs
section
variable (K : PySem.W.Frag) (mg : Str → Option Value)
/-- a list that stays, a tuple that stays -/
def StL (G : Gh) (H : Hp) (a : Addr) (xs : List V) : Prop :=
  (¬ G.mt a ∧ Rd H a (.lst xs)) ∨
    ∃ (o : Obj) (its : Array Value) (n : Nat), K.lookup a = some o ∧ o.cls = .type "list" ∧ o.dict = none ∧ o.data = .seq its n ∧ its.size ≤ sizeLine ∧ Vals xs its.toList
def StT (G : Gh) (H : Hp) (a : Addr) (xs : List V) : Prop :=
  (¬ G.mt a ∧ Rd H a (.tup xs)) ∨
    ∃ (o : Obj) (its : Array Value) (n : Nat), K.lookup a = some o ∧ o.cls = .type "tuple" ∧ o.data = .seq its n ∧ its.size ≤ sizeLine ∧ Vals xs its.toList

mutual
inductive RV (G : Gh) (H : Hp) : Vl → V → Prop
  | non : RV G H .non .non
  | bl (b : Bool) : RV G H (.bl b) (.bl b)
  | int (i : Int) : RV G H (.int i) (.int i)
  | str (s : Str) : RV G H (.str s) (.str s)
  | tup {xs : List Vl} {a : Addr} {us : List V} : StT K G H a us → RVs G H xs us → RV G H (.tup xs) (.ref a)
  | lst {xs : List Vl} {a : Addr} {us : List V} : ¬ G.mt a → H a = some (.lst us) → RVs G H xs us → RV G H (.lst xs) (.ref a)
  | scr {xs : List Vl} {a : Addr} {us : List V} : StL K G H a us → RVs G H xs us → RV G H (.scr xs) (.ref a)
  | dk {kvs : List (Key × Vl)} {a : Addr} {us : List (Key × V)} : ¬ G.mt a → H a = some (.dK us) → RVk G H kvs us → RV G H (.dk kvs) (.ref a)
  | dt {kvs : List (List Key × Vl)} {a : Addr} {us : List (List Key × V)} : ¬ G.mt a → H a = some (.dT us) → RVt G H kvs us → RV G H (.dt kvs) (.ref a)
  | obj {i : Nat} {a : Addr} : G.mu i = some a → RV G H (.obj i) (.ref a)
  | glb {n : Str} {a : Addr} : mg n = some (.ref a) → RV G H (.glb n) (.ref a)
  | ty (n : String) : RV G H (.ty n) (.ty n)
  | err {n : Str} {x : Vl} {a C d : Addr} {v : V} : mg n = some (.ref C) → ¬ G.mt a → H a = some (errO a C d) → ¬ G.mt d → H d = some (.xd [(attrOf n, v)]) → RV G H x v → RV G H (.err n x) (.ref a)
inductive RVs (G : Gh) (H : Hp) : List Vl → List V → Prop
  | nil : RVs G H [] []
  | cons {x : Vl} {xs : List Vl} {u : V} {us : List V} : RV G H x u → RVs G H xs us → RVs G H (x :: xs) (u :: us)
inductive RVk (G : Gh) (H : Hp) : List (Key × Vl) → List (Key × V) → Prop
  | nil : RVk G H [] []
  | cons {k : Key} {x : Vl} {xs : List (Key × Vl)} {u : V} {us : List (Key × V)} : RV G H x u → RVk G H xs us → RVk G H ((k, x) :: xs) ((k, u) :: us)
inductive RVt (G : Gh) (H : Hp) : List (List Key × Vl) → List (List Key × V) → Prop
  | nil : RVt G H [] []
  | cons {k : List Key} {x : Vl} {xs : List (List Key × Vl)} {u : V} {us : List (List Key × V)} : RV G H x u → RVt G H xs us → RVt G H ((k, x) :: xs) ((k, u) :: us)
end
end

section
variable {K : PySem.W.Frag} {mg : Str → Option Value} {G G' G'' : Gh} {H H' H'' : Hp}
theorem StL.sq {a : Addr} {xs : List V} (h : StL K G H a xs) : SqL K H a xs := by
  rcases h with ⟨_, h⟩ | h
  · exact .inl h
  · exact .inr h
theorem StT.sq {a : Addr} {xs : List V} (h : StT K G H a xs) : SqT K H a xs := by
  rcases h with ⟨_, h⟩ | h
  · exact .inl h
  · exact .inr h

/-- what a rule may do to the heap: the store's objects may change, all else is kept; new things may come -/
structure Ext (G : Gh) (H : Hp) (G' : Gh) (H' : Hp) : Prop where
  mu : ∀ i a, G.mu i = some a → G'.mu i = some a
  mt : ∀ b o, H b = some o → (G'.mt b ↔ G.mt b)
  keep : ∀ b o, H b = some o → (∀ i, G.mu i ≠ some b) → H' b = some o
  new : ∀ i a, G'.mu i = some a → G.mu i = some a ∨ H a = none
  dom : ∀ b o, H b = some o → ∃ o', H' b = some o'
theorem Ext.refl : Ext G H G H := ⟨fun _ _ h => h, fun _ _ _ => Iff.rfl, fun _ _ h _ => h, fun _ _ h => .inl h, fun _ o h => ⟨o, h⟩⟩
theorem Ext.trans (a : Ext G H G' H') (b : Ext G' H' G'' H'') : Ext G H G'' H'' where
  mu := fun i x h => b.mu i x (a.mu i x h)
  mt := fun x o h => let ⟨o', h'⟩ := a.dom x o h; (b.mt x o' h').trans (a.mt x o h)
  keep := fun x o h n => b.keep x o (a.keep x o h n) fun i e => by
    rcases a.new i x e with z | z
    · exact n i z
    · rw [h] at z; cases z
  new := fun i x h => by
    rcases b.new i x h with z | z
    · exact a.new i x z
    · refine .inr ?_
      cases q : H x with
      | none => rfl
      | some o =>
        obtain ⟨o', e⟩ := a.dom x o q
        rw [e] at z; cases z
  dom := fun x o h => let ⟨o', h'⟩ := a.dom x o h; b.dom x o' h'
theorem Ext.fresh (e : Ext G H G' H') {p : Addr} (h : H' p = none) : H p = none := by
  cases q : H p with
  | none => rfl
  | some o =>
    obtain ⟨o', r⟩ := e.dom p o q
    rw [r] at h; cases h
theorem Ext.rd (e : Ext G H G' H') {a : Addr} {u : HO} (n : ¬ G.mt a) (h : Rd H a u) : ¬ G'.mt a ∧ Rd H' a u := by
  have nm : ∀ i, G.mu i ≠ some a := fun i z => n (G.sub i a z)
  rcases h with h | ⟨o, h⟩
  · exact ⟨fun z => n ((e.mt a _ h).mp z), .inl (e.keep a _ h nm)⟩
  · exact ⟨fun z => n ((e.mt a _ h).mp z), .inr ⟨o, e.keep a _ h nm⟩⟩
theorem Ext.stL (e : Ext G H G' H') {a : Addr} {xs : List V} (h : StL K G H a xs) : StL K G' H' a xs := by
  rcases h with ⟨n, h⟩ | h
  · exact .inl (e.rd n h)
  · exact .inr h
theorem Ext.stT (e : Ext G H G' H') {a : Addr} {xs : List V} (h : StT K G H a xs) : StT K G' H' a xs := by
  rcases h with ⟨n, h⟩ | h
  · exact .inl (e.rd n h)
  · exact .inr h
/-- from one place of a frame to another one: what stays, stays -/
structure Keep (G : Gh) (H : Hp) (G' : Gh) (H' : Hp) : Prop where
  mu : ∀ i a, G.mu i = some a → G'.mu i = some a
  st : ∀ a u, ¬ G.mt a → H a = some u → ¬ G'.mt a ∧ H' a = some u
theorem Keep.refl : Keep G H G H := ⟨fun _ _ h => h, fun _ _ n h => ⟨n, h⟩⟩
theorem Keep.trans (a : Keep G H G' H') (b : Keep G' H' G'' H'') : Keep G H G'' H'' := ⟨fun i x h => b.mu i x (a.mu i x h), fun x u n h => let ⟨n', h'⟩ := a.st x u n h; b.st x u n' h'⟩
theorem Keep.rd (k : Keep G H G' H') {a : Addr} {u : HO} (n : ¬ G.mt a) (h : Rd H a u) : ¬ G'.mt a ∧ Rd H' a u := by
  rcases h with h | ⟨o, h⟩
  · exact ⟨(k.st a _ n h).1, .inl (k.st a _ n h).2⟩
  · exact ⟨(k.st a _ n h).1, .inr ⟨o, (k.st a _ n h).2⟩⟩
theorem Keep.stL (k : Keep G H G' H') {a : Addr} {xs : List V} (h : StL K G H a xs) : StL K G' H' a xs := by
  rcases h with ⟨n, h⟩ | h
  · exact .inl (k.rd n h)
  · exact .inr h
theorem Keep.stT (k : Keep G H G' H') {a : Addr} {xs : List V} (h : StT K G H a xs) : StT K G' H' a xs := by
  rcases h with ⟨n, h⟩ | h
  · exact .inl (k.rd n h)
  · exact .inr h
mutual
theorem RV.keep (k : Keep G H G' H') : ∀ {x : Vl} {v : V}, RV K mg G H x v → RV K mg G' H' x v
  | _, _, .non => .non
  | _, _, .bl b => .bl b
  | _, _, .int i => .int i
  | _, _, .str s => .str s
  | _, _, .tup h r => .tup (k.stT h) (RVs.keep k r)
  | _, _, .lst n h r => .lst (k.st _ _ n h).1 (k.st _ _ n h).2 (RVs.keep k r)
  | _, _, .scr h r => .scr (k.stL h) (RVs.keep k r)
  | _, _, .dk n h r => .dk (k.st _ _ n h).1 (k.st _ _ n h).2 (RVk.keep k r)
  | _, _, .dt n h r => .dt (k.st _ _ n h).1 (k.st _ _ n h).2 (RVt.keep k r)
  | _, _, .obj h => .obj (k.mu _ _ h)
  | _, _, .glb h => .glb h
  | _, _, .ty n => .ty n
  | _, _, .err hm n1 h1 n2 h2 r => .err hm (k.st _ _ n1 h1).1 (k.st _ _ n1 h1).2 (k.st _ _ n2 h2).1 (k.st _ _ n2 h2).2 (RV.keep k r)
theorem RVs.keep (k : Keep G H G' H') : ∀ {xs : List Vl} {us : List V}, RVs K mg G H xs us → RVs K mg G' H' xs us
  | _, _, .nil => .nil
  | _, _, .cons r t => .cons (RV.keep k r) (RVs.keep k t)
theorem RVk.keep (k : Keep G H G' H') : ∀ {xs : List (Key × Vl)} {us : List (Key × V)}, RVk K mg G H xs us → RVk K mg G' H' xs us
  | _, _, .nil => .nil
  | _, _, .cons r t => .cons (RV.keep k r) (RVk.keep k t)
theorem RVt.keep (k : Keep G H G' H') : ∀ {xs : List (List Key × Vl)} {us : List (List Key × V)}, RVt K mg G H xs us → RVt K mg G' H' xs us
  | _, _, .nil => .nil
  | _, _, .cons r t => .cons (RV.keep k r) (RVt.keep k t)
end
theorem Ext.toKeep (e : Ext G H G' H') : Keep G H G' H' where
  mu := e.mu
  st := fun a u n h => ⟨fun z => n ((e.mt a _ h).mp z), e.keep a _ h fun i z => n (G.sub i a z)⟩
theorem RV.ext {x : Vl} {v : V} (h : RV K mg G H x v) (e : Ext G H G' H') : RV K mg G' H' x v := h.keep e.toKeep
theorem RVs.ext {x : List Vl} {v : List V} (h : RVs K mg G H x v) (e : Ext G H G' H') : RVs K mg G' H' x v := h.keep e.toKeep
theorem RVk.ext {x : List (Key × Vl)} {v : List (Key × V)} (h : RVk K mg G H x v) (e : Ext G H G' H') : RVk K mg G' H' x v := h.keep e.toKeep
theorem RVt.ext {x : List (List Key × Vl)} {v : List (List Key × V)} (h : RVt K mg G H x v) (e : Ext G H G' H') : RVt K mg G' H' x v := h.keep e.toKeep

/-- a value that may be borrowed: an own list of a frame, read -/
def RB (K : PySem.W.Frag) (mg : Str → Option Value) (G : Gh) (H : Hp) (x : Vl) (v : V) : Prop :=
  RV K mg G H x v ∨ ∃ xs a us, x = .bor xs ∧ v = .ref a ∧ (∀ i, G.mu i ≠ some a) ∧ H a = some (.lst us) ∧ RVs K mg G H xs us
theorem RB.ext {x : Vl} {v : V} (h : RB K mg G H x v) (e : Ext G H G' H') : RB K mg G' H' x v := by
  rcases h with h | ⟨xs, a, us, rfl, rfl, n, h, r⟩
  · exact .inl (h.ext e)
  · exact .inr ⟨xs, a, us, rfl, rfl, fun i z => (e.new i a z).elim (fun q => n i q) (fun q => by rw [h] at q; cases q), e.keep a _ h n, r.ext e⟩
theorem RV.rb {x : Vl} {v : V} (h : RV K mg G H x v) : RB K mg G H x v := .inl h
def notBor : Vl → Bool
  | .bor _ => false
  | _ => true
theorem RB.rv {x : Vl} {v : V} (h : RB K mg G H x v) (n : notBor x = true) : RV K mg G H x v := by
  rcases h with h | ⟨xs, a, us, rfl, _⟩
  · exact h
  · cases n

/-! ### the store -/
section
variable (K) (mg)
inductive OR (G : Gh) (H : Hp) : Ob → Addr → Prop
  | lst {xs : List Vl} {a : Addr} {us : List V} : H a = some (.lst us) → RVs K mg G H xs us → OR G H (.lst xs) a
  | dk {kvs : List (Key × Vl)} {a : Addr} {us : List (Key × V)} : H a = some (.dK us) → RVk K mg G H kvs us → OR G H (.dk kvs) a
  | dt {kvs : List (List Key × Vl)} {a : Addr} {us : List (List Key × V)} : H a = some (.dT us) → RVt K mg G H kvs us → OR G H (.dt kvs) a
  | ins {c : Str} {fs : List (Str × Vl)} {a C dx : Addr} {us : List (Str × V)} : mg c = some (.ref C) → H a = some (.ins C dx us) → us.map (·.1) = fs.map (·.1) → RVs K mg G H (fs.map (·.2)) (us.map (·.2)) → OR G H (.ins c fs) a
structure StR (G : Gh) (H : Hp) (st : Sto) : Prop where
  at_ : ∀ i o, st[i]? = some o → ∃ a, G.mu i = some a ∧ OR K mg G H o a
  inj : ∀ i j a, G.mu i = some a → G.mu j = some a → i = j
  lim : ∀ i, st.length ≤ i → G.mu i = none
  mtd : ∀ a, G.mt a → ∃ o, H a = some o
end

/-! ### building steps -/
/-- a new object that stays -/
theorem ext_new {p : Addr} {o : HO} (hp : H p = none) : Ext G H G (upd H p o) where
  mu := fun _ _ h => h
  mt := fun _ _ _ => Iff.rfl
  keep := fun b u h _ => by rw [upd_ne (ne_of_none h hp)]; exact h
  new := fun _ _ h => .inl h
  dom := fun b u h => ⟨u, by rw [upd_ne (ne_of_none h hp)]; exact h⟩
theorem OR.keepN {o : Ob} {a : Addr} (h : OR K mg G H o a) (e : Ext G H G' H') (ha : ∀ u, H a = some u → H' a = some u) : OR K mg G' H' o a := by
  cases h with
  | lst h r => exact .lst (ha _ h) (r.ext e)
  | dk h r => exact .dk (ha _ h) (r.ext e)
  | dt h r => exact .dt (ha _ h) (r.ext e)
  | ins hc h hn r => exact .ins hc (ha _ h) hn (r.ext e)
theorem StR.new {st : Sto} (s : StR K mg G H st) {p : Addr} {o : HO} (hp : H p = none) : StR K mg G (upd H p o) st where
  at_ := fun i ob h => let ⟨a, h1, h2⟩ := s.at_ i ob h; ⟨a, h1, h2.keepN (ext_new hp) fun u hu => by rw [upd_ne (ne_of_none hu hp)]; exact hu⟩
  inj := s.inj
  lim := s.lim
  mtd := fun a h => let ⟨u, hu⟩ := s.mtd a h; ⟨u, by rw [upd_ne (ne_of_none hu hp)]; exact hu⟩
theorem StR.nmt {st : Sto} (s : StR K mg G H st) {p : Addr} (hp : H p = none) : ¬ G.mt p := fun z => by
  obtain ⟨o, h⟩ := s.mtd p z
  rw [hp] at h; cases h
theorem stT_new {st : Sto} (s : StR K mg G H st) {p : Addr} {us : List V} (hp : H p = none) : StT K G (upd H p (.tup us)) p us := .inl ⟨s.nmt hp, .inl upd_same⟩
theorem stL_new {st : Sto} (s : StR K mg G H st) {p : Addr} {us : List V} (hp : H p = none) : StL K G (upd H p (.lst us)) p us := .inl ⟨s.nmt hp, .inl upd_same⟩

/-! ### lists -/
theorem RVs.length : ∀ {xs : List Vl} {us : List V}, RVs K mg G H xs us → xs.length = us.length
  | _, _, .nil => rfl
  | _, _, .cons _ t => by rw [List.length_cons, List.length_cons, RVs.length t]
theorem RVk.length : ∀ {xs : List (Key × Vl)} {us : List (Key × V)}, RVk K mg G H xs us → xs.length = us.length
  | _, _, .nil => rfl
  | _, _, .cons _ t => by rw [List.length_cons, List.length_cons, RVk.length t]
theorem RVs.get : ∀ {xs : List Vl} {us : List V} {i : Nat} {x : Vl}, RVs K mg G H xs us → xs[i]? = some x → ∃ u, us[i]? = some u ∧ RV K mg G H x u
  | _, _, _, _, .nil, e => by simp at e
  | _, _, 0, _, .cons r _, e => by simp at e; subst e; exact ⟨_, rfl, r⟩
  | _, _, i + 1, x, .cons _ t, e => by
    obtain ⟨u, h1, h2⟩ := RVs.get (i := i) (x := x) t (by simpa using e)
    exact ⟨u, by simpa using h1, h2⟩
theorem RVs.getr : ∀ {xs : List Vl} {us : List V} {i : Nat} {u : V}, RVs K mg G H xs us → us[i]? = some u → ∃ x, xs[i]? = some x ∧ RV K mg G H x u
  | _, _, _, _, .nil, e => by simp at e
  | _, _, 0, _, .cons r _, e => by simp at e; subst e; exact ⟨_, rfl, r⟩
  | _, _, i + 1, x, .cons _ t, e => by
    obtain ⟨u, h1, h2⟩ := RVs.getr (i := i) (u := x) t (by simpa using e)
    exact ⟨u, by simpa using h1, h2⟩
theorem RVs.append : ∀ {xs ys : List Vl} {us ws : List V}, RVs K mg G H xs us → RVs K mg G H ys ws → RVs K mg G H (xs ++ ys) (us ++ ws)
  | _, _, _, _, .nil, s => s
  | _, _, _, _, .cons r t, s => .cons r (RVs.append t s)
theorem RVs.one {x : Vl} {u : V} (h : RV K mg G H x u) : RVs K mg G H [x] [u] := .cons h .nil
theorem RVs.take : ∀ {xs : List Vl} {us : List V} (n : Nat), RVs K mg G H xs us → RVs K mg G H (xs.take n) (us.take n)
  | _, _, 0, _ => .nil
  | _, _, _ + 1, .nil => .nil
  | _, _, n + 1, .cons r t => .cons r (RVs.take n t)
theorem RVs.drop : ∀ {xs : List Vl} {us : List V} (n : Nat), RVs K mg G H xs us → RVs K mg G H (xs.drop n) (us.drop n)
  | _, _, 0, r => r
  | _, _, _ + 1, .nil => .nil
  | _, _, n + 1, .cons _ t => RVs.drop n t
theorem RVs.set {x : Vl} {u : V} (r : RV K mg G H x u) : ∀ {xs : List Vl} {us : List V} (i : Nat), RVs K mg G H xs us → RVs K mg G H (xs.set i x) (us.set i u)
  | _, _, _, .nil => .nil
  | _, _, 0, .cons _ t => .cons r t
  | _, _, i + 1, .cons q t => .cons q (RVs.set r i t)
theorem RVs.reverse {xs : List Vl} {us : List V} (h : RVs K mg G H xs us) : RVs K mg G H xs.reverse us.reverse := by
  induction xs generalizing us with
  | nil => cases h; exact .nil
  | cons x xs ih =>
    cases h with
    | cons r t => rw [List.reverse_cons, List.reverse_cons]; exact (ih t).append (.one r)
theorem RVs.dropLast {xs : List Vl} {us : List V} (h : RVs K mg G H xs us) : RVs K mg G H xs.dropLast us.dropLast := by
  rw [List.dropLast_eq_take, List.dropLast_eq_take, h.length]
  exact h.take _
end
end LG

set_option Elab.async false
set_option linter.all false
set_option maxRecDepth 100000
/-! G2: the own language, its evaluator. -/
namespace LG
open PySem L2

/-! ### outcomes -/
inductive Out (α : Type) where
  | ok (a : α) (st : Sto)
  | exc (n : Str) (x : Vl) (st : Sto)
  | bad
abbrev M (α : Type) := Sto → Out α
def ret {α : Type} (a : α) : M α := fun st => .ok a st
def bad {α : Type} : M α := fun _ => .bad
def bnd {α β : Type} (m : M α) (f : α → M β) : M β := fun st => match m st with
  | .ok a st' => f a st'
  | .exc n x st' => .exc n x st'
  | .bad => .bad
def opt {α : Type} (o : Option α) : M α := match o with
  | some a => ret a
  | none => bad
/-- a look at the store -/
def look {α : Type} (f : Sto → Option α) : M α := fun st => match f st with
  | some a => .ok a st
  | none => .bad
theorem bnd_ok {α β : Type} {m : M α} {f : α → M β} {st st' : Sto} {a : α} (h : m st = .ok a st') : bnd m f st = f a st' := by unfold bnd; rw [h]
theorem bnd_ret {α β : Type} (a : α) (f : α → M β) : bnd (ret a) f = f a := rfl
theorem bnd_cases {α β : Type} {m : M α} {f : α → M β} {st : Sto} {o : Out β} (h : bnd m f st = o) :
    (∃ a st', m st = .ok a st' ∧ f a st' = o) ∨ (∃ n x st', m st = .exc n x st' ∧ o = .exc n x st') ∨ (m st = .bad ∧ o = .bad) := by
  unfold bnd at h
  cases e : m st with
  | ok a st' => rw [e] at h; exact .inl ⟨a, st', rfl, h⟩
  | exc n x st' => rw [e] at h; exact .inr (.inl ⟨n, x, st', rfl, h.symm⟩)
  | bad => rw [e] at h; exact .inr (.inr ⟨rfl, h.symm⟩)

/-! ### the language -/
inductive Bop where
  | add | sub | mul | mod | fdiv | pow
  deriving DecidableEq
inductive Cop where
  | eq | ne | lt | le | gt | ge | isin | notin | isN | notN
  deriving DecidableEq
/-- built-in functions and types, called -/
inductive Bf where
  | len | abs | int | str | repr | all | any | tuple | min2 | max2 | sum | min1 | max1
  deriving DecidableEq
/-- those that give a new list or dict -/
inductive Ff where
  | list | sorted | dict
  deriving DecidableEq
/-- methods of texts -/
inductive Tf where
  | join | upper
  deriving DecidableEq
/-- classes for isinstance -/
inductive Cn where
  | ty (n : String)
  | own (n : Str)
  deriving DecidableEq

inductive T where
  | nm (i : Nat)
  | tp (ts : List T)

mutual
inductive E where
  | var (i : Nat)
  | own (i : Nat)
  | int (i : Int) | bl (b : Bool) | non | str (s : Str)
  | gstr (n : Str) (s : Str)
  | gint (n : Str) (i : Int)
  | tup (es : Es)
  | bin (o : Bop) (a b : E)
  | neg (a : E)
  | nt (a : E)
  | and (a b : E)
  | or (a b : E)
  | cmp (o : Cop) (a b : E)
  | chn (o o' : Cop) (a b c : E)
  | ite (c a b : E)
  | idx (a i : E)
  | slc (a : E) (lo hi : Eo)
  | rev (a : E)
  | atr (a : E) (f : Str)
  | mkx (n : Str) (a : E)
  | mkk (n : Str) (a : E)
  | isi (a : E) (cs : List Cn)
  | blt (f : Bf) (es : Es)
  | txt (f : Tf) (a : E) (es : Es)
  | cal (f : Str) (es : Es)
  | get (a k d : E)
  | pop (a : E)
  | popa (a k : E)
  | fr (f : Fr)
  | mko (f : Fr)
inductive Es where
  | nil
  | cons (e : E) (es : Es)
inductive Eo where
  | non
  | som (e : E)
inductive Fr where
  | lst (es : Es)
  | dnewK | dnewT
  | disp (ks : List Str) (es : Es)
  | comp (own : List (Str × Nat)) (elt : E) (t : T) (it : It) (cs : Eo)
  | blt (f : Ff) (a : E)
  | slc (a : E) (lo hi : Eo)
  | bin (o : Bop) (a b : E)
  | cal (f : Str) (es : Es)
inductive It where
  | seq (e : E)
  | rng1 (a : E)
  | rng2 (a b : E)
end

/-- a right side: a value, or a new thing for an own slot -/
inductive Sv where
  | e (e : E)
  | o (f : Fr)
mutual
inductive S where
  | asg (t : T) (e : E)
  | ownA (i : Nat) (f : Fr)
  | par (i j : Nat) (a b : Sv)
  | setI (o i v : E)
  | setD (o i v : E)
  | setA (o : E) (f : Str) (v : E)
  | setS (k : Nat) (i v : E)
  | app (k : Nat) (e : E)
  | appo (o e : E)
  | ins (k : Nat) (i e : E)
  | exp (e : E)
  | ret (e : E)
  | retF (f : Fr)
  | retO (k : Nat)
  | retN
  | ite (c : E) (a b : Ss)
  | forr (t : T) (it : It) (b : Ss)
  | whl (c : E) (b : Ss)
  | brk | cnt | pass
  | frz (i : Nat)
inductive Ss where
  | nil
  | cons (s : S) (ss : Ss)
end

/-! ### a frame's slots -/
inductive Sl where
  | e
  | v (x : Vl)
  | l (xs : List Vl)
  | d (kvs : List (Key × Vl))
abbrev Ev := List Sl

/-- what a def gives back: a value, or a new thing -/
inductive Rt where
  | vl (x : Vl)
  | fr (o : Ob)
def Ob.toVl : Ob → Option Vl
  | .lst xs => some (.lst xs)
  | .dk kvs => some (.dk kvs)
  | .dt kvs => some (.dt kvs)
  | .ins _ _ => none
inductive Res where
  | nx (r : Ev)
  | rt (r : Rt)
  | bk (r : Ev)
  | ct (r : Ev)

/-! ### operations on values -/
/-- a list's items: tracked or not -/
def asList (st : Sto) : Vl → Option (List Vl)
  | .lst xs => some xs
  | .bor xs => some xs
  | .scr xs => some xs
  | .obj i => match st[i]? with
    | some (.lst xs) => some xs
    | _ => none
  | _ => none
/-- a list that is tracked as itself -/
def asLst (st : Sto) : Vl → Option (List Vl)
  | .lst xs => some xs
  | .bor xs => some xs
  | .obj i => match st[i]? with
    | some (.lst xs) => some xs
    | _ => none
  | _ => none
def asSeq (st : Sto) (x : Vl) : Option (List Vl) := match x with
  | .tup xs => some xs
  | _ => asList st x
def asDk (st : Sto) : Vl → Option (List (Key × Vl))
  | .dk kvs => some kvs
  | .obj i => match st[i]? with
    | some (.dk kvs) => some kvs
    | _ => none
  | _ => none
def toKey : Vl → Option Key
  | .int i => some (.inl i)
  | .str s => some (.inr s)
  | _ => none
def ofKey : Key → Vl
  | .inl i => .int i
  | .inr s => .str s
def valD (kvs : List (Key × Vl)) (k : Key) : Option Vl := (kvs.find? fun kv => decide (kv.1 = k)).map (·.2)
def putD (kvs : List (Key × Vl)) (k : Key) (v : Vl) : List (Key × Vl) :=
  if (kvs.any fun kv => decide (kv.1 = k)) = true then kvs.map (fun kv => if kv.1 = k then (kv.1, v) else kv) else kvs ++ [(k, v)]

mutual
/-- plain data -/
def toPy : Vl → Option PyData
  | .non => some .none
  | .bl b => some (.bool b)
  | .int i => some (.int i)
  | .str s => some (.str s)
  | .tup xs => (toPys xs).map .tuple
  | .lst xs => (toPys xs).map .list
  | .bor xs => (toPys xs).map .list
  | .scr xs => (toPys xs).map .list
  | _ => none
def toPys : List Vl → Option (List PyData)
  | [] => some []
  | x :: xs => match toPy x, toPys xs with
    | some d, some ds => some (d :: ds)
    | _, _ => none
end
/-- a list of the store as data, one level -/
def toPyS (st : Sto) : Vl → Option PyData
  | .obj i => match st[i]? with
    | some (.lst xs) => (toPys xs).map .list
    | _ => none
  | x => toPy x
def keyPy : Key → PyData
  | .inl i => .int i
  | .inr s => .str s
mutual
/-- data, dicts too: for repr -/
def toPyD : Vl → Option PyData
  | .non => some .none
  | .bl b => some (.bool b)
  | .int i => some (.int i)
  | .str s => some (.str s)
  | .tup xs => (toPyDs xs).map .tuple
  | .lst xs => (toPyDs xs).map .list
  | .bor xs => (toPyDs xs).map .list
  | .dk kvs => (toPyDk kvs).map .dict
  | _ => none
def toPyDs : List Vl → Option (List PyData)
  | [] => some []
  | x :: xs => match toPyD x, toPyDs xs with
    | some d, some ds => some (d :: ds)
    | _, _ => none
def toPyDk : List (Key × Vl) → Option (List (PyData × PyData))
  | [] => some []
  | (k, x) :: xs => match toPyD x, toPyDk xs with
    | some d, some ds => some ((keyPy k, d) :: ds)
    | _, _ => none
end
def toPyDS (st : Sto) : Vl → Option PyData
  | .obj i => match st[i]? with
    | some (.lst xs) => (toPyDs xs).map .list
    | some (.dk kvs) => (toPyDk kvs).map .dict
    | _ => none
  | x => toPyD x
def shp (d : PyData) : Bool := SeqAt.shaped d
def eqM (st : Sto) (x y : Vl) : Option Bool := match toPyS st x, toPyS st y with
  | some d, some e => if shp d && shp e then some (PyData.eqv d e) else none
  | _, _ => none
/-- two tuples' items, as far as both go -/
def eqTl : List Vl → List Vl → Option (List Bool)
  | x :: xs, y :: ys => match toPy x, toPy y, eqTl xs ys with
    | some d, some e, some bs => if shp d && shp e then some (PyData.eqv d e :: bs) else none
    | _, _, _ => none
  | _, _ => some []
def eqT (xs ys : List Vl) : Option Bool := (eqTl xs ys).map fun bs => bs.all id && xs.length == ys.length
def allFlat : List Vl → Bool
  | [] => true
  | .non :: r => allFlat r
  | .bl _ :: r => allFlat r
  | .int _ :: r => allFlat r
  | .str _ :: r => allFlat r
  | _ :: _ => false

def binM (o : Bop) (st : Sto) (x y : Vl) : Option Vl := match o, x, y with
  | .add, .int i, .int j => some (.int (i + j))
  | .add, .str a, .str b => if a.length + b.length ≤ sizeLine then some (.str (a ++ b)) else none
  | .add, .tup a, .tup b => if a.length + b.length ≤ sizeLine then some (.tup (a ++ b)) else none
  | .add, x, y => match asLst st x, asLst st y with
    | some a, some b => if a.length + b.length ≤ sizeLine then some (.lst (a ++ b)) else none
    | _, _ => none
  | .sub, .int i, .int j => some (.int (i - j))
  | .mul, .int i, .int j => if (-(2 ^ 64) < i ∧ i < 2 ^ 64) ∨ (-(2 ^ 64) < j ∧ j < 2 ^ 64) then some (.int (i * j)) else none
  | .mod, .int i, .int j => if 0 < j then some (.int (i % j)) else none
  | .fdiv, .int i, .int j => if 0 < j ∧ j < 1073741824 then some (.int (i / j)) else none
  | .pow, .int i, .int j => if 0 ≤ j ∧ j ≤ 1000000 ∧ i.natAbs < 2 ^ 64 then some (.int (i ^ j.toNat)) else none
  | .mul, .str a, .int j => if -(2 ^ 63) ≤ j ∧ j ≤ 4096 ∧ a.length ≤ 4096 then some (.str (Txt.mul a j)) else none
  | .mul, .tup a, .int j => if -(2 ^ 63) ≤ j ∧ j ≤ 1000 ∧ a.length ≤ 1000 then some (.tup (List.replicate j.toNat a).flatten) else none
  | .mul, x, .int j => match asLst st x with
    | some a => if -(2 ^ 63) ≤ j ∧ j < 2 ^ 63 ∧ a.length * j.toNat ≤ sizeLine then some (.lst (List.replicate j.toNat a).flatten) else none
    | none => none
  | _, _, _ => none
/-- a new list by an operation -/
def binF (o : Bop) (st : Sto) (x y : Vl) : Option Ob := match o with
  | .add => match asLst st x, asLst st y with
    | some a, some b => if a.length + b.length ≤ sizeLine then some (.lst (a ++ b)) else none
    | _, _ => none
  | .mul => match asLst st x, y with
    | some a, .int j => if -(2 ^ 63) ≤ j ∧ j < 2 ^ 63 ∧ a.length * j.toNat ≤ sizeLine then some (.lst (List.replicate j.toNat a).flatten) else none
    | _, _ => none
  | _ => none
def isNonB : Vl → Bool
  | .non => true
  | _ => false
def isSub (w z : Str) : Bool := !(Builtin.Str.occurrences z w 0 z.length 1).isEmpty
def cmpM (o : Cop) (st : Sto) (x y : Vl) : Option Bool := match o, x, y with
  | .eq, x, y => eqM st x y
  | .ne, x, y => (eqM st x y).map not
  | .lt, .int i, .int j => some (decide (i < j))
  | .le, .int i, .int j => some (decide (i ≤ j))
  | .gt, .int i, .int j => some (decide (j < i))
  | .ge, .int i, .int j => some (decide (j ≤ i))
  | .lt, .str i, .str j => some (decide (i.cps.toList < j.cps.toList))
  | .le, .str i, .str j => some (!decide (j.cps.toList < i.cps.toList))
  | .gt, .str i, .str j => some (decide (j.cps.toList < i.cps.toList))
  | .ge, .str i, .str j => some (!decide (i.cps.toList < j.cps.toList))
  | .isN, x, .non => some (isNonB x)
  | .notN, x, .non => some (!isNonB x)
  | .isin, .str a, .str b => some (isSub a b)
  | .notin, .str a, .str b => some (!isSub a b)
  | .isin, x, y => match asDk st y, toKey x with
    | some kvs, some k => some (valD kvs k).isSome
    | _, _ => match asSeq st y with
      | some xs => if allFlat [x] && allFlat xs then (match toPy x, toPys xs with | some d, some ds => some (ds.any fun z => PyData.eqv z d) | _, _ => none) else none
      | none => none
  | .notin, x, y => match asDk st y, toKey x with
    | some kvs, some k => some (!(valD kvs k).isSome)
    | _, _ => match asSeq st y with
      | some xs => if allFlat [x] && allFlat xs then (match toPy x, toPys xs with | some d, some ds => some (!ds.any fun z => PyData.eqv z d) | _, _ => none) else none
      | none => none
  | _, _, _ => none
/-- lists of unlike lengths are unlike -/
def lenNe (st : Sto) (x y : Vl) : Option Bool := match asLst st x, asLst st y with
  | some xs, some ys => if xs.length = ys.length then none else some false
  | _, _ => none
def cmpA (o : Cop) (st : Sto) (x y : Vl) : Option Bool := match cmpM o st x y with
  | some b => some b
  | none => match o, x, y with
    | .eq, .tup xs, .tup ys => eqT xs ys
    | .ne, .tup xs, .tup ys => (eqT xs ys).map not
    | .eq, x, y => lenNe st x y
    | .ne, x, y => (lenNe st x y).map not
    | _, _, _ => none
def truM (st : Sto) (x : Vl) : Option Bool := match x with
  | .non => some false
  | .bl b => some b
  | .int i => some (i != 0)
  | .str z => if z.length ≤ sizeLine then some ((z.length : Int) != 0) else none
  | x => match asSeq st x with
    | some xs => some !xs.isEmpty
    | none => match asDk st x with
      | some kvs => some !kvs.isEmpty
      | none => none
def idxM (st : Sto) (x i : Vl) : Option Vl := match x, i with
  | .str z, .int i => if z.length ≤ sizeLine then (atI z.cps.toList i).map fun c => .str ⟨#[c]⟩ else none
  | .tup xs, .int i => atI xs i
  | x, i => match asDk st x, toKey i with
    | some kvs, some k => valD kvs k
    | _, _ => match asList st x, i with
      | some xs, .int i => atI xs i
      | _, _ => none
def cutL {α : Type} (xs : List α) (lo hi : Option Int) : List α := (xs.drop (HT.sIx xs.length 0 lo)).take (HT.sIx xs.length xs.length hi - HT.sIx xs.length 0 lo)
def slcM (st : Sto) (x : Vl) (lo hi : Option Int) : Option Vl := match x with
  | .str z => if z.length ≤ sizeLine then some (.str (cutS z lo hi)) else none
  | .tup xs => some (.tup (cutL xs lo hi))
  | x => (asList st x).map fun xs => .lst (cutL xs lo hi)
def revM (st : Sto) : Vl → Option Vl
  | .tup xs => some (.tup xs.reverse)
  | .str z => if z.length ≤ sizeLine then some (.str ⟨z.cps.toList.reverse.toArray⟩) else none
  | x => (asList st x).map fun xs => .lst xs.reverse
/-- the program's errors -/
def errN : List Str := ["BadProgram", "NoProcedure", "BadState", "BadMove", "BadPoint", "BadStretch", "NoStep", "BadWidening", "TooMany", "BadEdit", "BadJournal", "BadText"]
/-- what their texts begin with -/
def preOf (n : Str) : Str :=
  if n = "BadProgram" then "no program: " else if n = "NoProcedure" then "no procedure " else if n = "BadState" then "no right state at " else if n = "BadMove" then "no possible move at " else if n = "BadPoint" then "no such place: " else
  if n = "BadStretch" then "no stretch at " else if n = "NoStep" then "no step at " else if n = "BadWidening" then "no widening at " else if n = "TooMany" then "no right number: " else if n = "BadEdit" then "no right edit at " else if n = "BadJournal" then "no right row at " else "no right line "
/-- an attribute -/
def atrM (cls : List Str) (st : Sto) (x : Vl) (f : Str) : Option Vl := match x with
  | .err n y => if f = attrOf n ∧ n ∈ cls ∧ n ∈ errN then some y else none
  | _ => none
/-- the type's name -/
def tyM (st : Sto) : Vl → Option Cn
  | .non => some (.ty "NoneType")
  | .bl _ => some (.ty "bool")
  | .int _ => some (.ty "int")
  | .str _ => some (.ty "str")
  | .tup _ => some (.ty "tuple")
  | .lst _ => some (.ty "list")
  | .bor _ => some (.ty "list")
  | .scr _ => some (.ty "list")
  | .dk _ => some (.ty "dict")
  | .dt _ => some (.ty "dict")
  | .obj i => match st[i]? with
    | some (.lst _) => some (.ty "list")
    | some (.dk _) => some (.ty "dict")
    | some (.dt _) => some (.ty "dict")
    | some (.ins c _) => if c ∈ errN ∨ c = "LetGoError" then none else some (.own c)
    | none => none
  | .err n _ => if n ∈ errN then some (.own n) else none
  | _ => none
def lenM (st : Sto) (x : Vl) : Option Nat := match x with
  | .str z => if z.length ≤ sizeLine then some z.length else none
  | x => match asSeq st x with
    | some xs => some xs.length
    | none => match asDk st x with
      | some kvs => some kvs.length
      | none => none
def vInts : List Vl → Option (List Int)
  | [] => some []
  | .int i :: r => (vInts r).map (i :: ·)
  | _ => none
def vBools : List Vl → Option (List Bool)
  | [] => some []
  | .bl i :: r => (vBools r).map (i :: ·)
  | _ => none
def vStrs : List Vl → Option (List Str)
  | [] => some []
  | .str i :: r => (vStrs r).map (i :: ·)
  | _ => none
def bltM (f : Bf) (st : Sto) (xs : List Vl) : Option Vl := match f, xs with
  | .len, [x] => (lenM st x).map fun n => .int n
  | .abs, [.int i] => some (.int (if i < 0 then -i else i))
  | .int, [.int i] => some (.int i)
  | .int, [.bl b] => some (.int (if b then 1 else 0))
  | .str, [.int i] => if i.natAbs.log2 < 1920 then some (.str (toString i)) else none
  | .all, [x] => match asList st x with
    | some xs => (vBools xs).map fun bs => .bl (bs.all id)
    | none => none
  | .any, [x] => match asList st x with
    | some xs => (vBools xs).map fun bs => .bl (bs.any id)
    | none => none
  | .tuple, [x] => (asSeq st x).map .tup
  | .min2, [.int i, .int j] => some (.int (if j < i then j else i))
  | .max2, [.int i, .int j] => some (.int (if j > i then j else i))
  | .repr, [x] => match toPyDS st x with
    | some d => if d.showable && decide (d.depth ≤ 60) && decide (d.shown.length ≤ sizeLine) then some (.str d.shown) else none
    | none => none
  | _, _ => none
def txtM (f : Tf) (st : Sto) (x : Vl) (xs : List Vl) : Option Vl := match f, x, xs with
  | .join, .str a, [y] => match asSeq st y with
    | some ys => match vStrs ys with
      | some zs => if (zs.map (·.length)).sum + zs.length * a.length ≤ 16777216 then some (.str (Txt.join a zs)) else none
      | none => none
    | none => none
  | .upper, .str a, [] => if a.length ≤ 5592405 then some (.str (Txt.upper a)) else none
  | _, _, _ => none
def insStr (x : Str) : List Str → List Str
  | [] => [x]
  | y :: r => if x.cps.toList < y.cps.toList then x :: y :: r else y :: insStr x r
def sortStr (l : List Str) : List Str := l.foldr insStr []
def insInt (x : Int) : List Int → List Int
  | [] => [x]
  | y :: r => if x ≤ y then x :: y :: r else y :: insInt x r
def sortInt (l : List Int) : List Int := l.foldr insInt []
/-- fewer than 64 texts, or numbers, sorted -/
def srtM (xs : List Vl) : Option (List Vl) := if xs.length < 64 then (match vStrs xs with
  | some zs => some ((sortStr zs).map .str)
  | none => match vInts xs with
    | some zs => some ((sortInt zs).map .int)
    | none => none) else none
def frM (f : Ff) (st : Sto) (x : Vl) : Option Ob := match f with
  | .list => match asSeq st x with
    | some xs => some (.lst xs)
    | none => match asDk st x with
      | some kvs => some (.lst (kvs.map fun kv => ofKey kv.1))
      | none => none
  | .sorted => match asList st x with
    | some xs => (srtM xs).map .lst
    | none => match asDk st x with
      | some kvs => (srtM (kvs.map fun kv => ofKey kv.1)).map .lst
      | none => none
  | .dict => (asDk st x).map .dk

/-! ### targets -/
mutual
def bindT : T → Vl → Ev → Option Ev
  | .nm i, x, r => if notBor x then some (r.set i (.v x)) else none
  | .tp ts, .tup xs, r => bindTs ts xs r
  | .tp _, _, _ => none
def bindTs : List T → List Vl → Ev → Option Ev
  | [], [], r => some r
  | t :: ts, x :: xs, r => (bindT t x r).bind (bindTs ts xs)
  | _, _, _ => none
end
def wipeE (r : Ev) : List Nat → Ev
  | [] => r
  | v :: vs => (wipeE r vs).set v .e

/-! ### the evaluator -/
/-- what a call means -/
structure Ca where
  call : Str → List Vl → M Rt
  fuel : Nat
  cls : List Str
  has : Str → Bool
  err : Str → Bool

def isas (t : Cn) (sub : Cn → Cn → Option Bool) : List Cn → Option Bool
  | [] => some false
  | c :: cs => match sub t c with
    | some true => some true
    | some false => isas t sub cs
    | none => none
def tyA : List String := ["NoneType", "bool", "int", "str", "tuple", "list", "dict"]
def tyB : List String := ["str", "int", "bool", "list", "tuple", "dict"]
/-- n's instances are m's -/
def sub2 (n m : Str) : Bool := decide (n = m) || (decide (m = "LetGoError") && decide (n ∈ errN))
def subC (cls : List Str) : Cn → Cn → Option Bool
  | .ty a, .ty b => kitB a b
  | .own a, .own b => if a ∈ cls ∧ b ∈ cls then some (sub2 a b) else none
  | .ty a, .own b => if a ∈ tyA ∧ b ∈ cls then some false else none
  | .own a, .ty b => if a ∈ cls ∧ b ∈ tyB then some false else if a ∈ cls ∧ a ∈ errN ∧ b = "ValueError" then some true else none
/-- classes that are known -/
def okC (cls : List Str) : Cn → Bool
  | .ty _ => true
  | .own n => decide (n ∈ cls)
def isiM (cls : List Str) (cs : List Cn) (st : Sto) (x : Vl) : Option Vl := match tyM st x with
  | some t => if okC cls t then (isas t (subC cls) cs).map .bl else none
  | none => none
/-- no exception -/
def noX {α : Type} (m : M α) : M α := fun st => match m st with
  | .ok a st' => .ok a st'
  | _ => .bad
def compL (f : Vl → M (Option Vl)) : List Vl → M (List Vl)
  | [] => ret []
  | x :: xs => bnd (noX (f x)) fun o => bnd (compL f xs) fun r => ret (match o with | some y => y :: r | none => r)
/-- behind a loop's turn -/
def lpR (r : Res) (f : Ev → M Res) : M Res := match r with
  | .nx r' => f r'
  | .ct r' => f r'
  | .bk r' => ret (.nx r')
  | .rt v => ret (.rt v)
def forL (f : Vl → Ev → M Res) : List Vl → Ev → M Res
  | [], r => ret (.nx r)
  | x :: xs, r => bnd (f x r) fun y => lpR y (forL f xs)
def whlN (c : Ev → M Bool) (f : Ev → M Res) : Nat → Ev → M Res
  | 0, _ => bad
  | n + 1, r => bnd (c r) fun b => if b then bnd (f r) fun y => lpR y (whlN c f n) else ret (.nx r)
def okV (x : Vl) : M Vl := if notBor x then ret x else bad
def frozen (o : Ob) : M Vl := opt o.toVl
def alloc (o : Ob) : M Vl := fun st => .ok (.obj st.length) (st ++ [o])
def intP : Vl → Option Int
  | .int i => some i
  | _ => none

def dispL : List Str → List Vl → Option (List (Key × Vl))
  | [], [] => some []
  | k :: ks, v :: vs => (dispL ks vs).map ((.inr k, v) :: ·)
  | _, _ => none
def putAll : List (Key × Vl) → List (Key × Vl) → List (Key × Vl)
  | acc, [] => acc
  | acc, (k, v) :: r => putAll (putD acc k v) r

/-- a call's end, as a value, as a new thing -/
def endV : Rt → M Vl
  | .vl x => okV x
  | .fr o => frozen o
def endF : Rt → M Ob
  | .vl _ => bad
  | .fr o => ret o
def strOf : Vl → Option Str
  | .str z => some z
  | _ => none
/-- a value, and its truth -/
def tru (m : M Vl) : M Vl × M Bool := (m, bnd m fun x => look fun st => truM st x)
/-- a test, and its value -/
def tst (m : M Bool) : M Vl × M Bool := (bnd m fun b => ret (.bl b), m)

def slV : Option Sl → M Vl
  | some (.v x) => ret x
  | _ => bad
def slO : Option Sl → M Vl
  | some (.l xs) => ret (.bor xs)
  | _ => bad
/-- what is walked: by a block (cm), its own lists, too -/
def seqI (cm : Bool) : Vl → Option (List Vl)
  | .tup xs => some xs
  | .lst xs => some xs
  | .scr xs => some xs
  | .bor xs => if cm then some xs else none
  | .str z => some (z.cps.toList.map fun c => .str ⟨#[c]⟩)
  | _ => none
/-- an error made of a value -/
def mkX (n : Str) (st : Sto) (x : Vl) : Option Vl := match bltM .repr st [x] with
  | some (.str z) => if (preOf n).length + z.length ≤ sizeLine ∧ notBor x = true then some (.err n x) else none
  | _ => none
mutual
def evB (C : Ca) : E → Ev → M Vl × M Bool
  | .var i, r => tru (slV r[i]?)
  | .own i, r => tru (slO r[i]?)
  | .int i, _ => tru (ret (.int i))
  | .bl b, _ => tru (ret (.bl b))
  | .non, _ => tru (ret .non)
  | .str s, _ => tru (ret (.str s))
  | .gstr _ s, _ => tru (ret (.str s))
  | .gint _ i, _ => tru (ret (.int i))
  | .tup es, r => tru (bnd (evEs C es r) fun xs => if xs.length ≤ sizeLine ∧ xs.all notBor then ret (.tup xs) else bad)
  | .bin o a b, r => tru (bnd ((evB C a r).1) fun x => bnd ((evB C b r).1) fun y => look fun st => binM o st x y)
  | .neg a, r => tru (bnd ((evB C a r).1) fun x => opt (match x with | .int i => some (.int (-i)) | _ => none))
  | .nt a, r => (bnd (evB C a r).1 fun x => look fun st => (truM st x).map fun b => .bl !b, bnd (evB C a r).2 fun b => ret !b)
  | .and a b, r => (bnd (evB C a r).1 fun x => match x with
    | .bl true => (evB C b r).1
    | .bl false => ret (.bl false)
    | _ => bad, bnd (evB C a r).2 fun x => if x then (evB C b r).2 else ret false)
  | .or a b, r => (bnd (evB C a r).1 fun x => match x with
    | .bl true => ret (.bl true)
    | .bl false => (evB C b r).1
    | _ => bad, bnd (evB C a r).2 fun x => if x then ret true else (evB C b r).2)
  | .cmp o a b, r => tst (bnd (evB C a r).1 fun x => bnd (evB C b r).1 fun y => look fun st => cmpA o st x y)
  | .chn o o' a b c, r => tst (bnd (evB C a r).1 fun x => bnd (evB C b r).1 fun y => bnd (look fun st => cmpA o st x y) fun k =>
      if k then bnd (evB C c r).1 fun z => look fun st => cmpA o' st y z else ret false)
  | .ite c a b, r => (bnd (evB C c r).2 fun k => if k then (evB C a r).1 else (evB C b r).1, bnd (evB C c r).2 fun k => if k then (evB C a r).2 else (evB C b r).2)
  | .idx a i, r => tru (bnd ((evB C a r).1) fun x => bnd ((evB C i r).1) fun y => look fun st => idxM st x y)
  | .slc a lo hi, r => tru (bnd ((evB C a r).1) fun x => bnd (evO C lo r) fun l => bnd (evO C hi r) fun h => look fun st => slcM st x l h)
  | .rev a, r => tru (bnd ((evB C a r).1) fun x => look fun st => revM st x)
  | .atr a f, r => tru (bnd ((evB C a r).1) fun x => look fun st => atrM C.cls st x f)
  | .mkx n a, r => tru (if C.err n then bnd ((evB C a r).1) fun x => look fun st => mkX n st x else bad)
  | .mkk n a, r => tru (if C.err n then bnd ((evB C a r).1) fun x => look fun st => mkX n st x else bad)
  | .isi a cs, r => tru (if cs.all (okC C.cls) ∧ cs.length ≤ 64 then bnd ((evB C a r).1) fun x => look fun st => isiM C.cls cs st x else bad)
  | .blt f es, r => tru (bnd (evEs C es r) fun xs => look fun st => bltM f st xs)
  | .txt f a es, r => tru (bnd ((evB C a r).1) fun x => bnd (opt (strOf x)) fun z => bnd (evEs C es r) fun xs => look fun st => txtM f st (.str z) xs)
  | .cal f es, r => tru (if C.has f then bnd (evEs C es r) fun xs => bnd (C.call f xs) endV else bad)
  | .get a k d, r => tru bad
  | .pop a, r => tru (bad)
  | .popa a k, r => tru (bad)
  | .fr f, r => tru (bnd (evF C f r) frozen)
  | .mko f, r => tru (bnd (evF C f r) alloc)
def evEs (C : Ca) : Es → Ev → M (List Vl)
  | .nil, _ => ret []
  | .cons e es, r => bnd ((evB C e r).1) fun x => bnd (evEs C es r) fun xs => ret (x :: xs)
def evO (C : Ca) : Eo → Ev → M (Option Int)
  | .non, _ => ret none
  | .som e, r => bnd ((evB C e r).1) fun x => opt (match x with | .int i => some (some i) | _ => none)
def evC (C : Ca) : Eo → Ev → M Bool
  | .non, _ => ret true
  | .som e, r => (evB C e r).2
def evF (C : Ca) : Fr → Ev → M Ob
  | .lst es, r => bnd (evEs C es r) fun xs => if xs.length ≤ sizeLine ∧ xs.all notBor then ret (.lst xs) else bad
  | .dnewK, _ => ret (.dk [])
  | .dnewT, _ => ret (.dt [])
  | .disp ks es, r => bnd (evEs C es r) fun xs => opt ((dispL ks xs).bind fun kvs => if kvs.length ≤ 15 ∧ xs.all notBor then some (.dk (putAll [] kvs)) else none)
  | .comp own elt t it cs, r => bnd (evI C true it r) fun xs => if xs.length ≤ sizeLine then bnd (compL (fun x => bnd (opt (bindT t x (wipeE r (own.map (·.2))))) fun r' =>
      bnd (evC C cs r') fun b => if b then bnd ((evB C elt r').1) fun y => if notBor y then ret (some y) else bad else ret none) xs) fun ys => ret (.lst ys) else bad
  | .blt f a, r => bnd ((evB C a r).1) fun x => look fun st => frM f st x
  | .slc a lo hi, r => bnd ((evB C a r).1) fun x => bnd (evO C lo r) fun l => bnd (evO C hi r) fun h => look fun st => (asList st x).map fun xs => .lst (cutL xs l h)
  | .bin o a b, r => bnd ((evB C a r).1) fun x => bnd ((evB C b r).1) fun y => look fun st => binF o st x y
  | .cal f es, r => if C.has f then bnd (evEs C es r) fun xs => bnd (C.call f xs) endF else bad
def evI (C : Ca) (cm : Bool) : It → Ev → M (List Vl)
  | .seq e, r => bnd ((evB C e r).1) fun x => opt (seqI cm x)
  | .rng1 a, r => bnd ((evB C a r).1) fun x => opt (match x with
    | .int j => if -(2 ^ 62) ≤ j ∧ j < 2 ^ 62 then some ((List.range j.toNat).map fun i => .int (0 + (i : Nat))) else none
    | _ => none)
  | .rng2 a b, r => bnd ((evB C a r).1) fun x => bnd ((evB C b r).1) fun y => opt (match x, y with
    | .int i, .int j => if (-(2 ^ 62) ≤ i ∧ i < 2 ^ 62) ∧ -(2 ^ 62) ≤ j ∧ j < 2 ^ 62 then some ((List.range (j - i).toNat).map fun k => .int (i + (k : Nat))) else none
    | _, _ => none)
end

def evE (C : Ca) (e : E) (r : Ev) : M Vl := (evB C e r).1
def evT (C : Ca) (e : E) (r : Ev) : M Bool := (evB C e r).2

def slOf : Ob → Option Sl
  | .lst xs => some (.l xs)
  | .dk kvs => some (.d kvs)
  | _ => none
def evV (C : Ca) : Sv → Ev → M Sl
  | .e e, r => bnd (evE C e r) fun x => if notBor x then ret (.v x) else bad
  | .o f, r => bnd (evF C f r) fun o => opt (slOf o)
def setObj (st : Sto) (i : Nat) (o : Ob) : Sto := st.set i o
def setOb : Ob → Vl → Vl → Option Ob
  | .lst xs, .int k, v => (ixN xs.length k).map fun j => .lst (xs.set j v)
  | .dk kvs, i, v => (toKey i).bind fun k => if kvs.length < sizeLine then some (.dk (putD kvs k v)) else none
  | _, _, _ => none
def setIM (st : Sto) (x i v : Vl) : Option Sto := match x with
  | .obj n => (st[n]?).bind fun o => if notBor v then (setOb o i v).map fun o' => st.set n o' else none
  | _ => none
def insAt (xs : List Vl) (i : Int) (y : Vl) : List Vl := xs.take i.toNat ++ [y] ++ xs.drop i.toNat

def ownG : Option Sl → Option Unit
  | some (.l _) => some ()
  | some (.d _) => some ()
  | _ => none
def ownL : Option Sl → Option Unit
  | some (.l _) => some ()
  | _ => none
def setSM (k : Nat) (r : Ev) (z y : Vl) : Option Res := if notBor z then match r[k]? with
      | some (.d kvs) => (toKey y).bind fun key => if kvs.length < sizeLine then some (.nx (r.set k (.d (putD kvs key z)))) else none
      | some (.l xs) => (match y with | .int j => (ixN xs.length j).map fun m => .nx (r.set k (.l (xs.set m z))) | _ => none)
      | _ => none else none
def appM (k : Nat) (r : Ev) (x : Vl) : Option Res := if notBor x then match r[k]? with
      | some (.l xs) => if xs.length < sizeLine then some (.nx (r.set k (.l (xs ++ [x])))) else none
      | _ => none else none
def insM (k : Nat) (r : Ev) (y x : Vl) : Option Res := if notBor x then match r[k]?, y with
      | some (.l xs), .int j => if xs.length < sizeLine ∧ 0 ≤ j ∧ j < 2 ^ 63 then some (.nx (r.set k (.l (insAt xs j x)))) else none
      | _, _ => none else none
def frzM (k : Nat) (r : Ev) : Option Res := match r[k]? with
    | some (.l xs) => some (.nx (r.set k (.v (.lst xs))))
    | some (.d kvs) => some (.nx (r.set k (.v (.dk kvs))))
    | _ => none
def rtO : Option Sl → M Res
  | some (.l xs) => ret (.rt (.fr (.lst xs)))
  | some (.d kvs) => ret (.rt (.fr (.dk kvs)))
  | _ => bad
def seqR (r : Res) (f : Ev → M Res) : M Res := match r with
  | .nx r' => f r'
  | x => ret x
mutual
def evS (C : Ca) : S → Ev → M Res
  | .asg t e, r => bnd (evE C e r) fun x => bnd (opt (bindT t x r)) fun r' => ret (.nx r')
  | .ownA i f, r => bnd (evF C f r) fun o => opt ((slOf o).map fun sl => .nx (r.set i sl))
  | .par i j a b, r => bnd (evV C a r) fun x => bnd (evV C b r) fun y => if i != j then ret (.nx ((r.set i x).set j y)) else bad
  | .setI o i v, r => bnd (evE C v r) fun z => bnd (evE C o r) fun x => bnd (evE C i r) fun y => fun st => match setIM st x y z with
    | some st' => .ok (.nx r) st'
    | none => .bad
  | .setD o i v, r => bad
  | .setA o f v, r => bad
  | .setS k i v, r => bnd (opt (ownG r[k]?)) fun _ => bnd (evE C v r) fun z => bnd (evE C i r) fun y => opt (setSM k r z y)
  | .app k e, r => bnd (opt (ownL r[k]?)) fun _ => bnd (evE C e r) fun x => opt (appM k r x)
  | .appo o e, r => bad
  | .ins k i e, r => bnd (opt (ownL r[k]?)) fun _ => bnd (evE C i r) fun y => bnd (evE C e r) fun x => opt (insM k r y x)
  | .exp e, r => bnd (evE C e r) fun _ => ret (.nx r)
  | .ret e, r => bnd (evE C e r) fun x => if notBor x then ret (.rt (.vl x)) else bad
  | .retF f, r => bnd (evF C f r) fun o => ret (.rt (.fr o))
  | .retO k, r => rtO r[k]?
  | .retN, _ => ret (.rt (.vl .non))
  | .ite c a b, r => bnd (evT C c r) fun k => if k then evSs C a r else evSs C b r
  | .forr t it b, r => bnd (evI C false it r) fun xs => forL (fun x r => bnd (opt (bindT t x r)) fun r' => evSs C b r') xs r
  | .whl c b, r => whlN (evT C c) (evSs C b) C.fuel r
  | .brk, r => ret (.bk r)
  | .cnt, r => ret (.ct r)
  | .pass, r => ret (.nx r)
  | .frz i, r => opt (frzM i r)
def evSs (C : Ca) : Ss → Ev → M Res
  | .nil, r => ret (.nx r)
  | .cons s ss, r => bnd (evS C s r) fun x => seqR x (evSs C ss)
end

/-! ### defs -/
structure Fn where
  np : Nat
  ns : List Str
  body : Ss
abbrev Tb := List (Str × Fn)
def start0 (n : Nat) (xs : List Vl) : Ev := xs.map .v ++ List.replicate (n - xs.length) .e
/-- a body's end -/
def rtE : Res → M Rt
  | .nx _ => ret (.vl .non)
  | .rt r => ret r
  | _ => bad
def callD (tb : Tb) (cls : List Str) (fuel : Nat) : Nat → Str → List Vl → M Rt
  | 0, _, _ => bad
  | d + 1, f, xs => match tb.lookup f with
    | none => bad
    | some fn => if xs.length = fn.np then bnd (evSs ⟨callD tb cls fuel d, fuel, cls, fun f => (tb.lookup f).isSome, fun n => decide (2 ≤ d) && (decide (n ∈ cls) && decide (n ∈ errN))⟩ fn.body (start0 fn.ns.length xs)) rtE else bad
end LG

set_option Elab.async false
set_option linter.all false
set_option maxRecDepth 100000
/-! G3: the checker: the own language's text stands for the statement's term. -/
namespace LG
open PySem L2

def Bop.py : Bop → Operator
  | .add => .Add | .sub => .Sub | .mul => .Mult | .mod => .Mod | .fdiv => .FloorDiv | .pow => .Pow
def Cop.py : Cop → CmpOp
  | .eq => .Eq | .ne => .NotEq | .lt => .Lt | .le => .LtE | .gt => .Gt | .ge => .GtE | .isin => .In | .notin => .NotIn | .isN => .Is | .notN => .IsNot
def Bf.py : Bf → Str
  | .len => "len" | .abs => "abs" | .int => "int" | .str => "str" | .repr => "repr" | .all => "all" | .any => "any" | .tuple => "tuple"
  | .min2 => "min" | .max2 => "max" | .sum => "sum" | .min1 => "min" | .max1 => "max"
def Ff.py : Ff → Str
  | .list => "list" | .sorted => "sorted" | .dict => "dict"
def Tf.py : Tf → Str
  | .join => "join" | .upper => "upper"
def beqOp (a b : Operator) : Bool := match a, b with
  | .Add, .Add => true | .Sub, .Sub => true | .Mult, .Mult => true | .Mod, .Mod => true | .FloorDiv, .FloorDiv => true | .Pow, .Pow => true
  | _, _ => false
theorem beqOp_eq {a b : Operator} (h : beqOp a b = true) : a = b := by
  cases a <;> cases b <;> first | rfl | cases h
def beqC (a b : CmpOp) : Bool := match a, b with
  | .Eq, .Eq => true | .NotEq, .NotEq => true | .Lt, .Lt => true | .LtE, .LtE => true | .Gt, .Gt => true | .GtE, .GtE => true
  | .In, .In => true | .NotIn, .NotIn => true | .Is, .Is => true | .IsNot, .IsNot => true
  | _, _ => false
theorem beqC_eq {a b : CmpOp} (h : beqC a b = true) : a = b := by
  cases a <;> cases b <;> first | rfl | cases h

/-- where a text stands: the def's names, the block's scope -/
structure Sc where
  N : List Str
  sc : Scope
  ks : List (Str × Str)
  ki : List (Str × Int)
def visB (s : Scope) (x : Str) : Bool := match s.names.lookup x with
  | some .local => true
  | some .cell => true
  | some .free => true
  | _ => false
def locB (s : Scope) (x : Str) : Bool := match s.names.lookup x with
  | some .local => true
  | some .cell => true
  | _ => false
def glB (s : Scope) (x : Str) : Bool := match s.names.lookup x with
  | some .globalImplicit => true
  | _ => false
def nmB (c : Sc) (i : Nat) (x : Str) : Bool := decide (c.N[i]? = some x) && visB c.sc x && !(x == ("__debug__" : Str)) && !(x == ("__classdict__" : Str))
def gnB (c : Sc) (x : Str) : Bool := glB c.sc x && !(x == ("__debug__" : Str)) && decide (x ≠ "__name__")
/-- no call without arguments (super()) -/
def nc0 : Expr → Bool
  | .Call _ [] _ _ => false
  | _ => true
def noSet : Expr → Bool
  | .Set _ _ _ => false
  | _ => true
def clsB (c : Sc) : Cn → Expr → Bool
  | .ty n, .Name x _ => gnB c x && decide ((n, x) ∈ ([("str", "str"), ("int", "int"), ("bool", "bool"), ("list", "list"), ("tuple", "tuple"), ("dict", "dict"), ("ValueError", "ValueError")] : List (String × Str)))
  | .own n, .Name x _ => gnB c x && decide (n = x)
  | _, _ => false
def clsAll (c : Sc) : List Cn → List Expr → Bool
  | [], [] => true
  | k :: ks, e :: es => clsB c k e && clsAll c ks es
  | _, _ => false
def clsEs (c : Sc) : List Cn → Expr → Bool
  | [k], .Name x p => clsB c k (.Name x p)
  | ks, .Tuple es _ _ => clsAll c ks es
  | _, _ => false
mutual
def chkT (c : Sc) : T → Expr → Bool
  | .nm i, .Name x _ => decide (c.N[i]? = some x) && locB c.sc x
  | .tp ts, .Tuple es _ _ => chkTs c ts es
  | _, _ => false
def chkTs (c : Sc) : List T → List Expr → Bool
  | [], [] => true
  | t :: ts, e :: es => chkT c t e && chkTs c ts es
  | _, _ => false
end
mutual
def ixT : T → List Nat
  | .nm i => [i]
  | .tp ts => ixTs ts
def ixTs : List T → List Nat
  | [] => []
  | t :: ts => ixT t ++ ixTs ts
end
/-- a block's target stands in the block's own names -/
def inT (own : List (Str × Nat)) (t : T) : Bool := (ixT t).all fun i => decide (i ∈ own.map (·.2))
def keysB : List Str → List (Option Expr) → Bool
  | [], [] => true
  | k :: ks, some (.Constant (.str s) _ _) :: es => decide (k = s) && keysB ks es
  | _, _ => false
def scopeOf (scope sc : Scope) : Scope := relS scope sc

mutual
def chkE (c : Sc) : E → Expr → Bool
  | .var i, .Name x _ => nmB c i x
  | .own i, .Name x _ => nmB c i x
  | .int i, .Constant (.int j) _ _ => decide (i = j)
  | .bl b, .Constant (.bool b') _ _ => decide (b = b')
  | .non, .Constant .none _ _ => true
  | .str s, .Constant (.str t) _ _ => decide (s = t)
  | .gstr n s, .Name x _ => decide (n = x) && gnB c x && decide ((n, s) ∈ c.ks)
  | .gint n i, .Name x _ => decide (n = x) && gnB c x && decide ((n, i) ∈ c.ki)
  | .tup es, .Tuple l _ _ => chkEs c es l
  | .bin o a b, .BinOp x o' y _ => beqOp o.py o' && chkE c a x && chkE c b y
  | .neg a, .UnaryOp .USub x _ => chkE c a x
  | .nt a, .UnaryOp .Not x _ => chkE c a x
  | .and a b, .BoolOp .And (x :: y :: r) pos => chkE c a x && (match r with
    | [] => chkE c b y
    | _ :: _ => chkE c b (.BoolOp .And (y :: r) pos))
  | .or a b, .BoolOp .Or (x :: y :: r) pos => chkE c a x && (match r with
    | [] => chkE c b y
    | _ :: _ => chkE c b (.BoolOp .Or (y :: r) pos))
  | .cmp o a b, .Compare x [o'] [y] _ => beqC o.py o' && chkE c a x && chkE c b y && noSet y
  | .chn o o' a b d, .Compare x [p, p'] [y, z] _ => beqC o.py p && beqC o'.py p' && chkE c a x && chkE c b y && chkE c d z && noSet z
  | .ite d a b, .IfExp t x y _ => chkE c d t && chkE c a x && chkE c b y
  | .idx a i, .Subscript x y _ => chkE c a x && chkE c i y
  | .slc a lo hi, .Subscript x (.Slice l h none _) _ => chkE c a x && chkO c lo l && chkO c hi h
  | .rev a, .Subscript x (.Slice none none (some (.UnaryOp .USub (.Constant (.int 1) _ _) _)) _) _ => chkE c a x
  | .atr a f, .Attribute x g _ => decide (f = g) && chkE c a x && nc0 x
  | .mkx n a, .Call (.Name m _) [x] [] _ => decide (n = m) && gnB c m && chkE c a x
  | .mkk n a, .Call (.Name m _) [] [⟨some g, x, _⟩] _ => decide (n = m) && gnB c m && chkE c a x && decide (g = attrOf n)
  | .isi a cs, .Call (.Name n _) [x, y] [] _ => decide (n = "isinstance") && gnB c n && chkE c a x && clsEs c cs y
  | .blt f es, .Call (.Name n _) (x :: l) [] _ => decide (n = f.py) && gnB c n && chkEs c es (x :: l)
  | .txt f a es, .Call (.Attribute x n ap) l [] pos => decide (n = f.py) && chkE c a x && chkEs c es l && nc0 x && (ap.endLine == pos.line) && decide (l.length < 29)
  | .cal f es, .Call (.Name n _) l [] _ => decide (n = f) && gnB c n && chkEs c es l
  | .get a k d, .Call (.Attribute x n ap) [y, z] [] pos => decide (n = "get") && chkE c a x && chkE c k y && chkE c d z && nc0 x && (ap.endLine == pos.line)
  | .fr f, p => chkF c f p
  | .mko f, p => chkF c f p
  | _, _ => false
def chkEs (c : Sc) : Es → List Expr → Bool
  | .nil, [] => true
  | .cons e es, x :: l => chkE c e x && chkEs c es l
  | _, _ => false
def chkO (c : Sc) : Eo → Option Expr → Bool
  | .non, none => true
  | .som e, some x => chkE c e x
  | _, _ => false
def chkC (c : Sc) : Eo → List Expr → Bool
  | .non, [] => true
  | .som e, [x] => chkE c e x
  | _, _ => false
def chkF (c : Sc) : Fr → Expr → Bool
  | .lst es, .List l _ => chkEs c es l
  | .dnewK, .Dict [] [] _ => true
  | .dnewT, .Dict [] [] _ => true
  | .disp ks es, .Dict kl vl _ => keysB ks kl && chkEs c es vl && decide (ks.length = vl.length) && decide (ks ≠ []) && decide (ks.length ≤ 15)
  | .comp own elt t it cs, .ListComp x [⟨tg, i, ifs, k⟩] scope _ => decide (k = 0) && blkC c.N c.sc scope own && chkI c it i && chkT ⟨c.N, scope, c.ks, c.ki⟩ t tg && chkC ⟨c.N, scopeOf scope c.sc, c.ks, c.ki⟩ cs ifs &&
      chkE ⟨c.N, scopeOf scope c.sc, c.ks, c.ki⟩ elt x && noSet i && inT own t
  | .blt f a, .Call (.Name n _) [x] [] _ => decide (n = f.py) && gnB c n && chkE c a x
  | .slc a lo hi, .Subscript x (.Slice l h none _) _ => chkE c a x && chkO c lo l && chkO c hi h
  | .bin o a b, .BinOp x o' y _ => beqOp o.py o' && chkE c a x && chkE c b y
  | .cal f es, .Call (.Name n _) l [] _ => decide (n = f) && gnB c n && chkEs c es l
  | _, _ => false
def chkI (c : Sc) : It → Expr → Bool
  | .seq e, p => chkE c e p
  | .rng1 a, .Call (.Name n _) [x] [] _ => decide (n = "range") && gnB c n && chkE c a x
  | .rng2 a b, .Call (.Name n _) [x, y] [] _ => decide (n = "range") && gnB c n && chkE c a x && chkE c b y
  | _, _ => false
end

/-- two plain local names on one line -/
def parB (c : Sc) (i j : Nat) : Expr → Expr → Bool
  | .Name x px, .Name y py => (match c.sc.kind with | .function => true | _ => false) && decide (c.N[i]? = some x) && decide (c.N[j]? = some y) && decide (c.sc.names.lookup x = some .local) && decide (c.sc.names.lookup y = some .local) && decide (px.line = py.line) && decide (i ≠ j)
  | _, _ => false
def isTupE : Expr → Bool
  | .Tuple _ _ _ => true
  | _ => false
def isListE : Expr → Bool
  | .List _ _ => true
  | _ => false
/-- no comprehension -/
def noCmp : Expr → Bool
  | .ListComp _ _ _ _ => false
  | .SetComp _ _ _ _ => false
  | .DictComp _ _ _ _ _ => false
  | _ => true
def kindF (s : Scope) : Bool := match s.kind with
  | .function => true
  | _ => false
/-- a list comprehension whose value goes into a plain local on the same line -/
def lcA (c : Sc) : Expr → Expr → Bool
  | .Name y py, .ListComp _ _ scope pos => kindF c.sc && decide (c.sc.names.lookup y = some .local) && (py.line == pos.line) && !(scope.names.any fun nk => nk.1 == y && (nk.2 == .local || nk.2 == .cell))
  | _, _ => false
/-- how an assignment stores: plainly, or as a comprehension's value -/
def plainA (c : Sc) (tg x : Expr) : Bool := (noCmp x && !(isTupE tg && isTupE x) && !isListE tg) || lcA c tg x
def chkV (c : Sc) : Sv → Expr → Bool
  | .e e, p => chkE c e p
  | .o f, p => chkF c f p
mutual
def chkS (c : Sc) : S → Stmt → Bool
  | .asg t e, .Assign [tg] x _ => chkT c t tg && chkE c e x && plainA c tg x
  | .ownA i f, .Assign [.Name n q] x _ => decide (c.N[i]? = some n) && locB c.sc n && chkF c f x && plainA c (.Name n q) x
  | .par i j a b, .Assign [.Tuple [x, y] _ _] (.Tuple [u, w] _ _) _ => parB c i j x y && chkV c a u && chkV c b w && !([u, w].all (foldedForSure 8)) && !([u, w].all (constantsAlone 8))
  | .setI o i v, .Assign [.Subscript x y _] z _ => chkE c o x && chkE c i y && chkE c v z && noCmp z
  | .setS k i v, .Assign [.Subscript (.Name n _) y _] z _ => nmB c k n && chkE c i y && chkE c v z && noCmp z
  | .app k e, .Expr (.Call (.Attribute (.Name n _) m ap) [x] [] pos) _ => nmB c k n && decide (m = "append") && chkE c e x && (ap.endLine == pos.line)
  | .ins k i e, .Expr (.Call (.Attribute (.Name n _) m ap) [y, x] [] pos) _ => nmB c k n && decide (m = "insert") && chkE c i y && chkE c e x && (ap.endLine == pos.line)
  | .exp e, .Expr x _ => chkE c e x && noCmp x
  | .ret e, .Return (some x) _ => chkE c e x
  | .retF f, .Return (some x) _ => chkF c f x
  | .retO k, .Return (some (.Name n _)) _ => nmB c k n
  | .retN, .Return none _ => true
  | .ite d a b, .If t p q _ => chkE c d t && chkSs c a p && chkSs c b q
  | .forr t it b, .For tg i p [] _ => chkT c t tg && chkI c it i && chkSs c b p && noSet i
  | .whl d b, .While t p [] _ => chkE c d t && chkSs c b p
  | .brk, .Break _ => true
  | .cnt, .Continue _ => true
  | .pass, .Pass _ => true
  | _, _ => false
def chkSs (c : Sc) : Ss → List Stmt → Bool
  | .nil, [] => true
  | .cons s ss, l => match s with
    | .frz _ => chkSs c ss l
    | s => match l with
      | st :: r => chkS c s st && chkSs c ss r
      | [] => false
  | _, _ => false
end
end LG

set_option Elab.async false
set_option linter.all false
set_option maxRecDepth 100000
/-! G4: what an outcome asks of the heap; a frame's slots; steps of the ghosts. -/
namespace LG
open PySem L2

section
variable (K : PySem.W.Frag) (mg : Str → Option Value)
def XR (G : Gh) (H : Hp) (n : Str) (x : Vl) (cls : Value) (d : Option Addr) : Prop :=
  ∃ C dd v, cls = .ref C ∧ mg n = some (.ref C) ∧ d = some dd ∧ H dd = some (.xd [(attrOf n, v)]) ∧ ¬ G.mt dd ∧ RV K mg G H x v
/-- an outcome covers what is asked -/
def Cov {α : Type} (E : XK) (G : Gh) (H : Hp) (o : Out α) (F : α → Sto → Gh → Hp → Prop) : Prop := match o with
  | .ok a st' => ∀ G' H', Ext G H G' H' → StR K mg G' H' st' → F a st' G' H'
  | .exc n x st' => ∀ cls d G' H', Ext G H G' H' → StR K mg G' H' st' → XR K mg G' H' n x cls d → E cls d H'
  | .bad => False
/-- a new thing at v, nobody else's -/
def FR (H : Hp) (G' : Gh) (H' : Hp) (o : Ob) (v : V) : Prop :=
  ∃ a, v = .ref a ∧ H a = none ∧ G'.mt a ∧ (∀ i, G'.mu i ≠ some a) ∧ OR K mg G' H' o a
def RR (H : Hp) (G' : Gh) (H' : Hp) : Rt → V → Prop
  | .vl x, v => RV K mg G' H' x v
  | .fr o, v => FR K mg H G' H' o v
inductive RBs (G : Gh) (H : Hp) : List Vl → List V → Prop
  | nil : RBs G H [] []
  | cons {x : Vl} {xs : List Vl} {u : V} {us : List V} : RB K mg G H x u → RBs G H xs us → RBs G H (x :: xs) (u :: us)
end
section
variable {K : PySem.W.Frag} {mg : Str → Option Value} {G G' G'' : Gh} {H H' H'' : Hp} {E : XK}
theorem Cov.ext {α : Type} {o : Out α} {F : α → Sto → Gh → Hp → Prop} (h : Cov K mg E G H o F) (e : Ext G H G' H') : Cov K mg E G' H' o F := by
  cases o with
  | ok a st' => exact fun G2 H2 e2 s2 => h G2 H2 (e.trans e2) s2
  | exc n x st' => exact fun cls d G2 H2 e2 s2 => h cls d G2 H2 (e.trans e2) s2
  | bad => exact h
theorem Cov.bnd {α β : Type} {m : M α} {f : α → M β} {st : Sto} {F : β → Sto → Gh → Hp → Prop} (h : Cov K mg E G H (bnd m f st) F) :
    Cov K mg E G H (m st) (fun a st' G' H' => Cov K mg E G' H' (f a st') F) := by
  unfold LG.bnd at h
  cases e : m st with
  | ok a st' => rw [e] at h; exact fun G' H' e' _ => Cov.ext h e'
  | exc n x st' => rw [e] at h; exact h
  | bad => rw [e] at h; exact h
theorem Cov.bnd0 {α β : Type} {m : M α} {f : α → M β} {st : Sto} {F : β → Sto → Gh → Hp → Prop} (h : Cov K mg E G H (LG.bnd m f st) F) :
    Cov K mg E G H (m st) (fun a st' _ _ => Cov K mg E G H (f a st') F) := by
  unfold LG.bnd at h
  cases e : m st with
  | ok a st' => rw [e] at h; exact fun G' H' e' _ => h
  | exc n x st' => rw [e] at h; exact h
  | bad => rw [e] at h; exact h
theorem Cov.noX {α : Type} {E' : XK} {m : M α} {st : Sto} {F : α → Sto → Gh → Hp → Prop} (h : Cov K mg E G H (noX m st) F) : Cov K mg E' G H (m st) F := by
  unfold LG.noX at h
  cases e : m st with
  | ok a st' => rw [e] at h; exact h
  | exc n x st' => rw [e] at h; exact h.elim
  | bad => rw [e] at h; exact h
theorem Cov.mono {α : Type} {o : Out α} {F F' : α → Sto → Gh → Hp → Prop} (h : Cov K mg E G H o F) (k : ∀ a st' G' H', Ext G H G' H' → StR K mg G' H' st' → F a st' G' H' → F' a st' G' H') : Cov K mg E G H o F' := by
  cases o with
  | ok a st' => exact fun G2 H2 e2 s2 => k a st' G2 H2 e2 s2 (h G2 H2 e2 s2)
  | exc n x st' => exact h
  | bad => exact h
theorem Cov.ret {α : Type} {a : α} {st : Sto} {F : α → Sto → Gh → Hp → Prop} (h : Cov K mg E G H (ret a st) F) (s : StR K mg G H st) : F a st G H := h G H .refl s
theorem Cov.opt {α : Type} {o : Option α} {st : Sto} {F : α → Sto → Gh → Hp → Prop} (h : Cov K mg E G H (opt o st) F) (s : StR K mg G H st) : ∃ a, o = some a ∧ F a st G H := by
  cases o with
  | none => exact h.elim
  | some a => exact ⟨a, rfl, h G H .refl s⟩
theorem Cov.look {α : Type} {f : Sto → Option α} {st : Sto} {F : α → Sto → Gh → Hp → Prop} (h : Cov K mg E G H (look f st) F) : ∃ a, f st = some a ∧ ∀ G' H', Ext G H G' H' → StR K mg G' H' st → F a st G' H' := by
  unfold LG.look at h
  cases e : f st with
  | none => rw [e] at h; exact h.elim
  | some a => rw [e] at h; exact ⟨a, rfl, h⟩
theorem RBs.ext : ∀ {xs : List Vl} {us : List V}, RBs K mg G H xs us → Ext G H G' H' → RBs K mg G' H' xs us
  | _, _, .nil, _ => .nil
  | _, _, .cons r t, e => .cons (r.ext e) (RBs.ext t e)
theorem RBs.rvs : ∀ {xs : List Vl} {us : List V}, RBs K mg G H xs us → xs.all notBor = true → RVs K mg G H xs us
  | _, _, .nil, _ => .nil
  | _, _, .cons r t, e => by
    rw [List.all_cons, Bool.and_eq_true] at e
    exact .cons (r.rv e.1) (RBs.rvs t e.2)
theorem RBs.length : ∀ {xs : List Vl} {us : List V}, RBs K mg G H xs us → xs.length = us.length
  | _, _, .nil => rfl
  | _, _, .cons _ t => by rw [List.length_cons, List.length_cons, RBs.length t]

/-! ### ghosts -/
def Gh.less (G : Gh) (a : Addr) (n : ∀ i, G.mu i ≠ some a) : Gh := ⟨G.mu, fun b => G.mt b ∧ b ≠ a, fun i b h => ⟨G.sub i b h, fun z => n i (z ▸ h)⟩⟩
def Gh.more (G : Gh) (a : Addr) : Gh := ⟨G.mu, fun b => G.mt b ∨ b = a, fun i b h => .inl (G.sub i b h)⟩
def Gh.put (G : Gh) (n : Nat) (a : Addr) (m : G.mt a) : Gh := ⟨fun i => if i = n then some a else G.mu i, G.mt, fun i b h => by
  by_cases q : i = n
  · rw [if_pos q] at h; cases h; exact m
  · rw [if_neg q] at h; exact G.sub i b h⟩
theorem keep_less {a : Addr} (n : ∀ i, G.mu i ≠ some a) : Keep G H (G.less a n) H := ⟨fun _ _ h => h, fun b u z h => ⟨fun q => z q.1, h⟩⟩
theorem ext_less {a : Addr} (e : Ext G H G' H') (n : ∀ i, G'.mu i ≠ some a) (ha : H a = none) : Ext G H (G'.less a n) H' where
  mu := e.mu
  mt := fun b o h => by
    have nb : b ≠ a := fun z => by rw [z, ha] at h; cases h
    exact ⟨fun q => (e.mt b o h).mp q.1, fun q => ⟨(e.mt b o h).mpr q, nb⟩⟩
  keep := e.keep
  new := e.new
  dom := e.dom
theorem OR.less {o : Ob} {b a : Addr} (n : ∀ i, G.mu i ≠ some a) (h : OR K mg G H o b) : OR K mg (G.less a n) H o b := by
  have k : Keep G H (G.less a n) H := keep_less n
  cases h with
  | lst h r => exact .lst h (r.keep k)
  | dk h r => exact .dk h (r.keep k)
  | dt h r => exact .dt h (r.keep k)
  | ins hc h hn r => exact .ins hc h hn (r.keep k)
theorem StR.less {st : Sto} {a : Addr} (n : ∀ i, G.mu i ≠ some a) (s : StR K mg G H st) : StR K mg (G.less a n) H st :=
  ⟨fun i o h => let ⟨b, h1, h2⟩ := s.at_ i o h; ⟨b, h1, h2.less n⟩, s.inj, s.lim, fun b q => s.mtd b q.1⟩
/-- a new thing is never changed from here on -/
theorem frozen_ok {st : Sto} {o : Ob} {x : Vl} {v : V} (hx : o.toVl = some x) (e : Ext G H G' H') (s : StR K mg G' H' st) (f : FR K mg H G' H' o v) :
    ∃ G2, Ext G H G2 H' ∧ StR K mg G2 H' st ∧ RV K mg G2 H' x v := by
  obtain ⟨a, rfl, ha, hm, hn, r⟩ := f
  have nm : ¬ (G'.less a hn).mt a := fun q => q.2 rfl
  refine ⟨G'.less a hn, ext_less e hn ha, s.less hn, ?_⟩
  have r' := r.less hn
  cases r' with
  | lst h r2 => cases hx; exact .lst nm h r2
  | dk h r2 => cases hx; exact .dk nm h r2
  | dt h r2 => cases hx; exact .dt nm h r2
  | ins hc h hn r2 => cases hx
theorem ext_put {n : Nat} {a : Addr} (e : Ext G H G' H') (m : G'.mt a) (ha : H a = none) (hn : G'.mu n = none) : Ext G H (G'.put n a m) H' where
  mu := fun i b h => by
    have h' := e.mu i b h
    show (if i = n then some a else G'.mu i) = some b
    by_cases q : i = n
    · rw [q, hn] at h'; cases h'
    · rw [if_neg q]; exact h'
  mt := e.mt
  keep := e.keep
  new := fun i b h => by
    have h : (if i = n then some a else G'.mu i) = some b := h
    by_cases q : i = n
    · rw [if_pos q] at h; cases h; exact .inr ha
    · rw [if_neg q] at h; exact e.new i b h
  dom := e.dom
theorem keep_put {n : Nat} {a : Addr} (m : G.mt a) (hn : G.mu n = none) : Keep G H (G.put n a m) H := ⟨fun i b h => by
    show (if i = n then some a else G.mu i) = some b
    by_cases q : i = n
    · rw [q, hn] at h; cases h
    · rw [if_neg q]; exact h, fun b u z h => ⟨z, h⟩⟩
theorem OR.keepK {o : Ob} {a : Addr} (h : OR K mg G H o a) (k : Keep G H G' H') (ha : ∀ u, H a = some u → H' a = some u) : OR K mg G' H' o a := by
  cases h with
  | lst h r => exact .lst (ha _ h) (r.keep k)
  | dk h r => exact .dk (ha _ h) (r.keep k)
  | dt h r => exact .dt (ha _ h) (r.keep k)
  | ins hc h hn r => exact .ins hc (ha _ h) hn (r.keep k)
theorem alloc_ok {st : Sto} {o : Ob} {v : V} (e : Ext G H G' H') (s : StR K mg G' H' st) (f : FR K mg H G' H' o v) :
    ∃ G2, Ext G H G2 H' ∧ StR K mg G2 H' (st ++ [o]) ∧ RV K mg G2 H' (.obj st.length) v := by
  obtain ⟨a, rfl, ha, hm, hn, r⟩ := f
  have hl : G'.mu st.length = none := s.lim _ (Nat.le_refl _)
  have k : Keep G' H' (G'.put st.length a hm) H' := keep_put hm hl
  refine ⟨G'.put st.length a hm, ext_put e hm ha hl, ⟨fun i ob h => ?_, fun i j b h1 h2 => ?_, fun i h => ?_, s.mtd⟩, .obj (if_pos rfl)⟩
  · by_cases q : i < st.length
    · rw [List.getElem?_append_left q] at h
      obtain ⟨b, h1, h2⟩ := s.at_ i ob h
      exact ⟨b, k.mu _ _ h1, h2.keepK k fun _ h => h⟩
    · by_cases q2 : i = st.length
      · subst q2
        rw [List.getElem?_append_right (Nat.le_refl _)] at h
        simp at h
        subst h
        exact ⟨a, if_pos rfl, r.keepK k fun _ h => h⟩
      · rw [List.getElem?_eq_none (by rw [List.length_append, List.length_singleton]; omega)] at h
        cases h
  · have h1 : (if i = st.length then some a else G'.mu i) = some b := h1
    have h2 : (if j = st.length then some a else G'.mu j) = some b := h2
    by_cases q1 : i = st.length
    · rw [if_pos q1] at h1
      by_cases q2 : j = st.length
      · rw [q1, q2]
      · rw [if_neg q2] at h2; cases h1; exact absurd h2 (hn j)
    · rw [if_neg q1] at h1
      by_cases q2 : j = st.length
      · rw [if_pos q2] at h2; cases h2; exact absurd h1 (hn i)
      · rw [if_neg q2] at h2; exact s.inj i j b h1 h2
  · rw [List.length_append, List.length_singleton] at h
    show (if i = st.length then some a else G'.mu i) = none
    rw [if_neg (by omega)]
    exact s.lim i (by omega)
/-- a new object is laid as nobody else's -/
theorem ext_more {p : Addr} {o : HO} (hp : H p = none) : Ext G H (G.more p) (upd H p o) where
  mu := fun _ _ h => h
  mt := fun b u h => ⟨fun q => q.elim id (fun z => by rw [z, hp] at h; cases h), fun q => .inl q⟩
  keep := fun b u h _ => by rw [upd_ne (ne_of_none h hp)]; exact h
  new := fun _ _ h => .inl h
  dom := fun b u h => ⟨u, by rw [upd_ne (ne_of_none h hp)]; exact h⟩
theorem StR.more {st : Sto} {p : Addr} {o : HO} (s : StR K mg G H st) (hp : H p = none) : StR K mg (G.more p) (upd H p o) st :=
  ⟨fun i ob h => let ⟨a, h1, h2⟩ := s.at_ i ob h; ⟨a, h1, h2.keepN (ext_more hp) fun u hu => by rw [upd_ne (ne_of_none hu hp)]; exact hu⟩, s.inj, s.lim, fun b q => by
    rcases q with q | q
    · obtain ⟨u, hu⟩ := s.mtd b q
      exact ⟨u, by rw [upd_ne (ne_of_none hu hp)]; exact hu⟩
    · exact ⟨o, by rw [q, upd_same]⟩⟩
theorem StR.nmu {st : Sto} (s : StR K mg G H st) {p : Addr} (hp : H p = none) : ∀ i, G.mu i ≠ some p := fun i z => s.nmt hp (G.sub i p z)
theorem fr_lst {st : Sto} {p : Addr} {xs : List Vl} {us : List V} (s : StR K mg G H st) (hp : H p = none) (r : RVs K mg G H xs us) : FR K mg H (G.more p) (upd H p (.lst us)) (.lst xs) (.ref p) :=
  ⟨p, rfl, hp, .inr rfl, s.nmu hp, .lst upd_same (r.ext (ext_more hp))⟩
theorem fr_dk {st : Sto} {p : Addr} {xs : List (Key × Vl)} {us : List (Key × V)} (s : StR K mg G H st) (hp : H p = none) (r : RVk K mg G H xs us) : FR K mg H (G.more p) (upd H p (.dK us)) (.dk xs) (.ref p) :=
  ⟨p, rfl, hp, .inr rfl, s.nmu hp, .dk upd_same (r.ext (ext_more hp))⟩
theorem FR.back {H1 : Hp} {o : Ob} {v : V} (f : FR K mg H1 G' H' o v) (e : Ext G H G'' H1) : FR K mg H G' H' o v := by
  obtain ⟨a, rfl, ha, r⟩ := f
  exact ⟨a, rfl, e.fresh ha, r⟩

/-! ### a frame's slots -/
structure Fz where
  G0 : Gh
  H0 : Hp
section
variable (K) (mg)
/-- a value that may stay in a slot -/
def SV (Z : Fz) (G : Gh) (H : Hp) (x : Vl) (v : V) : Prop :=
  RV K mg G H x v ∨ ∃ xs a us, x = .bor xs ∧ v = .ref a ∧ (∀ i, Z.G0.mu i ≠ some a) ∧ Z.H0 a = some (.lst us) ∧ RVs K mg G H xs us
inductive SlR (Z : Fz) (al : Nat → Option Addr) (G : Gh) (H : Hp) (i : Nat) : Sl → Option (Option V) → Prop
  | e {o : Option (Option V)} : SlR Z al G H i .e o
  | v {x : Vl} {u : V} : SV K mg Z G H x u → SlR Z al G H i (.v x) (some (some u))
  | l {xs : List Vl} {a : Addr} {us : List V} : al i = some a → H a = some (.lst us) → RVs K mg G H xs us → SlR Z al G H i (.l xs) (some (some (.ref a)))
  | d {xs : List (Key × Vl)} {a : Addr} {us : List (Key × V)} : al i = some a → H a = some (.dK us) → RVk K mg G H xs us → SlR Z al G H i (.d xs) (some (some (.ref a)))
structure EnvR (Z : Fz) (al : Nat → Option Addr) (G : Gh) (H : Hp) (r : Ev) (σ : St) : Prop where
  len : σ.length = r.length
  at_ : ∀ i sl, r[i]? = some sl → SlR K mg Z al G H i sl σ[i]?
  own : ∀ i a, al i = some a → G.mt a ∧ (∀ j, G.mu j ≠ some a) ∧ Z.H0 a = none ∧ ∃ o, H a = some o
  inj : ∀ i j a, al i = some a → al j = some a → i = j
  ext : Ext Z.G0 Z.H0 G H
end
variable {Z : Fz} {al : Nat → Option Addr} {r : Ev} {σ : St}
theorem SV.rb {x : Vl} {v : V} (h : SV K mg Z G H x v) (e : Ext Z.G0 Z.H0 G H) : RB K mg G H x v := by
  rcases h with h | ⟨xs, a, us, rfl, rfl, n, h, r⟩
  · exact .inl h
  · exact .inr ⟨xs, a, us, rfl, rfl, fun i z => (e.new i a z).elim (n i) (fun q => by rw [h] at q; cases q), e.keep a _ h n, r⟩
theorem SV.keep {x : Vl} {v : V} (h : SV K mg Z G H x v) (k : Keep G H G' H') : SV K mg Z G' H' x v := by
  rcases h with h | ⟨xs, a, us, rfl, rfl, n, h, r⟩
  · exact .inl (h.keep k)
  · exact .inr ⟨xs, a, us, rfl, rfl, n, h, r.keep k⟩
theorem EnvR.step (h : EnvR K mg Z al G H r σ) (e : Ext G H G' H') : EnvR K mg Z al G' H' r σ where
  len := h.len
  at_ := fun i sl q => by
    have q2 := h.at_ i sl q
    generalize σ[i]? = o at q2 ⊢
    cases q2 with
    | e => exact .e
    | v s => exact .v (s.keep e.toKeep)
    | l ha hh r => exact .l ha (e.keep _ _ hh (h.own i _ ha).2.1) (r.ext e)
    | d ha hh r => exact .d ha (e.keep _ _ hh (h.own i _ ha).2.1) (r.ext e)
  own := fun i a q => by
    obtain ⟨h1, h2, h3, o, h4⟩ := h.own i a q
    exact ⟨(e.mt a o h4).mpr h1, fun j z => (e.new j a z).elim (h2 j) (fun q => by rw [h4] at q; cases q), h3, e.dom a o h4⟩
  inj := h.inj
  ext := h.ext.trans e
theorem EnvR.var (h : EnvR K mg Z al G H r σ) {i : Nat} {x : Vl} (e : r[i]? = some (.v x)) : ∃ u, σ[i]? = some (some u) ∧ RB K mg G H x u := by
  have q := h.at_ i _ e
  generalize hs : σ[i]? = o at q
  cases q with
  | v s => exact ⟨_, rfl, s.rb h.ext⟩
theorem EnvR.ownL (h : EnvR K mg Z al G H r σ) {i : Nat} {xs : List Vl} (e : r[i]? = some (.l xs)) : ∃ a us, al i = some a ∧ σ[i]? = some (some (.ref a)) ∧ H a = some (.lst us) ∧ RVs K mg G H xs us := by
  have q := h.at_ i _ e
  generalize hs : σ[i]? = o at q
  cases q with
  | l ha hh r => exact ⟨_, _, ha, rfl, hh, r⟩
theorem EnvR.ownD (h : EnvR K mg Z al G H r σ) {i : Nat} {xs : List (Key × Vl)} (e : r[i]? = some (.d xs)) : ∃ a us, al i = some a ∧ σ[i]? = some (some (.ref a)) ∧ H a = some (.dK us) ∧ RVk K mg G H xs us := by
  have q := h.at_ i _ e
  generalize hs : σ[i]? = o at q
  cases q with
  | d ha hh r => exact ⟨_, _, ha, rfl, hh, r⟩
end
end LG

set_option Elab.async false
set_option linter.all false
set_option maxRecDepth 100000
set_option maxHeartbeats 4000000
/-! G5: the operations by values. -/
namespace LG
open PySem L2

section
variable {K : PySem.W.Frag} {mg : Str → Option Value} {G G' G'' : Gh} {H H' H'' : Hp}
theorem rb_int {i : Int} {v : V} (h : RB K mg G H (.int i) v) : v = .int i := by
  rcases h with h | ⟨_, _, _, e, _⟩
  · cases h; rfl
  · cases e
theorem rb_bl {i : Bool} {v : V} (h : RB K mg G H (.bl i) v) : v = .bl i := by
  rcases h with h | ⟨_, _, _, e, _⟩
  · cases h; rfl
  · cases e
theorem rb_str {i : Str} {v : V} (h : RB K mg G H (.str i) v) : v = .str i := by
  rcases h with h | ⟨_, _, _, e, _⟩
  · cases h; rfl
  · cases e
theorem rb_non {v : V} (h : RB K mg G H .non v) : v = .non := by
  rcases h with h | ⟨_, _, _, e, _⟩
  · cases h; rfl
  · cases e
theorem rb_tup {xs : List Vl} {v : V} (h : RB K mg G H (.tup xs) v) : ∃ a us, v = .ref a ∧ StT K G H a us ∧ RVs K mg G H xs us := by
  rcases h with h | ⟨_, _, _, e, _⟩
  · cases h with
    | tup h r => exact ⟨_, _, rfl, h, r⟩
  · cases e
theorem asLst_ok {st : Sto} {x : Vl} {xs : List Vl} {v : V} (e : asLst st x = some xs) (s : StR K mg G H st) (h : RB K mg G H x v) : ∃ a us, v = .ref a ∧ H a = some (.lst us) ∧ RVs K mg G H xs us := by
  unfold asLst at e
  split at e
  · cases e
    rcases h with h | ⟨_, _, _, e, _⟩
    · cases h with
      | lst n h r => exact ⟨_, _, rfl, h, r⟩
    · cases e
  · cases e
    rcases h with h | ⟨ys, a, us, e, rfl, n, hh, r⟩
    · cases h
    · cases e; exact ⟨a, us, rfl, hh, r⟩
  · rename_i i
    split at e
    · rename_i ys hi
      cases e
      rcases h with h | ⟨_, _, _, e, _⟩
      · cases h with
        | obj hm =>
          obtain ⟨b, hb, ho⟩ := s.at_ _ _ hi
          rw [hm] at hb; cases hb
          cases ho with
          | lst h r => exact ⟨_, _, rfl, h, r⟩
      · cases e
    · cases e
  · cases e
theorem asList_ok {st : Sto} {x : Vl} {xs : List Vl} {v : V} (e : asList st x = some xs) (s : StR K mg G H st) (h : RB K mg G H x v) : ∃ a us, v = .ref a ∧ SqL K H a us ∧ RVs K mg G H xs us := by
  by_cases q : ∃ ys, x = .scr ys
  · obtain ⟨ys, rfl⟩ := q
    unfold asList at e
    cases e
    rcases h with h | ⟨_, _, _, e, _⟩
    · cases h with
      | scr h r => exact ⟨_, _, rfl, h.sq, r⟩
    · cases e
  · have e2 : asLst st x = some xs := by
      unfold asList at e
      unfold asLst
      split at e
      · exact e
      · exact e
      · exact absurd ⟨_, rfl⟩ q
      · exact e
      · cases e
    obtain ⟨a, us, rfl, hh, r⟩ := asLst_ok e2 s h
    exact ⟨a, us, rfl, .of hh, r⟩
theorem asSeq_ok {st : Sto} {x : Vl} {xs : List Vl} {v : V} (e : asSeq st x = some xs) (s : StR K mg G H st) (h : RB K mg G H x v) : ∃ a us, v = .ref a ∧ (SqL K H a us ∨ SqT K H a us) ∧ RVs K mg G H xs us := by
  unfold asSeq at e
  split at e
  · cases e
    obtain ⟨a, us, rfl, h, r⟩ := rb_tup h
    exact ⟨a, us, rfl, .inr h.sq, r⟩
  · obtain ⟨a, us, rfl, h, r⟩ := asList_ok e s h
    exact ⟨a, us, rfl, .inl h, r⟩
theorem asDk_ok {st : Sto} {x : Vl} {xs : List (Key × Vl)} {v : V} (e : asDk st x = some xs) (s : StR K mg G H st) (h : RB K mg G H x v) : ∃ a us, v = .ref a ∧ H a = some (.dK us) ∧ RVk K mg G H xs us := by
  unfold asDk at e
  split at e
  · cases e
    rcases h with h | ⟨_, _, _, e, _⟩
    · cases h with
      | dk n h r => exact ⟨_, _, rfl, h, r⟩
    · cases e
  · rename_i i
    split at e
    · rename_i ys hi
      cases e
      rcases h with h | ⟨_, _, _, e, _⟩
      · cases h with
        | obj hm =>
          obtain ⟨b, hb, ho⟩ := s.at_ _ _ hi
          rw [hm] at hb; cases hb
          cases ho with
          | dk h r => exact ⟨_, _, rfl, h, r⟩
      · cases e
    · cases e
  · cases e
theorem toKey_ok {x : Vl} {k : Key} {v : V} (e : toKey x = some k) (h : RB K mg G H x v) : v = kV k := by
  unfold toKey at e
  split at e
  · cases e; rw [rb_int h]; rfl
  · cases e; rw [rb_str h]; rfl
  · cases e
theorem valD_ok {k : Key} : ∀ {xs : List (Key × Vl)} {us : List (Key × V)}, RVk K mg G H xs us → (∀ x, valD xs k = some x → ∃ u, valV us k = some u ∧ RV K mg G H x u) ∧ (valD xs k = none → valV us k = none)
  | _, _, .nil => ⟨fun x e => (by cases e), fun _ => rfl⟩
  | (k2, x) :: xs, (_, u) :: us, .cons r t => by
    have ih := valD_ok (k := k) t
    unfold valD valV at ih ⊢
    by_cases q : k2 = k
    · rw [List.find?_cons_of_pos (by simpa using q), List.find?_cons_of_pos (by simpa using q)]
      exact ⟨fun y e => (by cases e; exact ⟨u, rfl, r⟩), fun e => nomatch e⟩
    · rw [List.find?_cons_of_neg (by simpa using q), List.find?_cons_of_neg (by simpa using q)]
      exact ih
theorem valD_some {k : Key} {xs : List (Key × Vl)} {us : List (Key × V)} (r : RVk K mg G H xs us) : (valD xs k).isSome = (valV us k).isSome := by
  obtain ⟨h1, h2⟩ := valD_ok (k := k) r
  cases e : valD xs k with
  | none => rw [h2 e]; rfl
  | some x => obtain ⟨u, hu, _⟩ := h1 x e; rw [hu]; rfl
theorem RVs.replicate {x : Vl} {v : V} (r : RV K mg G H x v) : ∀ n, RVs K mg G H (List.replicate n x) (List.replicate n v)
  | 0 => .nil
  | n + 1 => .cons r (RVs.replicate r n)
theorem RVs.flat {xs : List Vl} {us : List V} (r : RVs K mg G H xs us) : ∀ n, RVs K mg G H (List.replicate n xs).flatten (List.replicate n us).flatten
  | 0 => .nil
  | n + 1 => by rw [List.replicate_succ, List.replicate_succ, List.flatten_cons, List.flatten_cons]; exact r.append (RVs.flat r n)

/-! ### data -/
mutual
theorem toPy_ok : ∀ {x : Vl} {d : PyData} {v : V}, toPy x = some d → RV K mg G H x v → Dp K H v d
  | .non, _, _, e, h => by cases h; cases e; exact .non
  | .bl b, _, _, e, h => by cases h; cases e; exact .bl b
  | .int b, _, _, e, h => by cases h; cases e; exact .int b
  | .str b, _, _, e, h => by cases h; cases e; exact .str b
  | .tup xs, d, v, e, h => by
    unfold toPy at e
    cases q : toPys xs with
    | none => rw [q] at e; cases e
    | some ds =>
      rw [q] at e; cases e
      cases h with
      | tup h r => exact .tup h.sq (toPys_ok q r)
  | .lst xs, d, v, e, h => by
    unfold toPy at e
    cases q : toPys xs with
    | none => rw [q] at e; cases e
    | some ds =>
      rw [q] at e; cases e
      cases h with
      | lst n h r => exact .lst (.of h) (toPys_ok q r)
  | .scr xs, d, v, e, h => by
    unfold toPy at e
    cases q : toPys xs with
    | none => rw [q] at e; cases e
    | some ds =>
      rw [q] at e; cases e
      cases h with
      | scr h r => exact .lst h.sq (toPys_ok q r)
  | .bor xs, d, v, e, h => by cases h
  | .dk _, _, _, e, h => by cases e
  | .dt _, _, _, e, h => by cases e
  | .obj _, _, _, e, h => by cases e
  | .glb _, _, _, e, h => by cases e
  | .ty _, _, _, e, h => by cases e
theorem toPys_ok : ∀ {xs : List Vl} {ds : List PyData} {us : List V}, toPys xs = some ds → RVs K mg G H xs us → DpAll K H us ds
  | [], _, _, e, h => by cases h; cases e; exact .nil
  | x :: xs, ds, us, e, h => by
    cases h with
    | cons r t =>
      unfold toPys at e
      split at e
      · rename_i d ds' e1 e2
        cases e
        exact .cons (toPy_ok e1 r) (toPys_ok e2 t)
      · cases e
end
theorem toPyB_ok {x : Vl} {d : PyData} {v : V} (e : toPy x = some d) (h : RB K mg G H x v) : Dp K H v d := by
  rcases h with h | ⟨xs, a, us, rfl, rfl, n, hh, r⟩
  · exact toPy_ok e h
  · unfold toPy at e
    cases q : toPys xs with
    | none => rw [q] at e; cases e
    | some ds => rw [q] at e; cases e; exact .lst (.of hh) (toPys_ok q r)
theorem toPyS_ok {st : Sto} {x : Vl} {d : PyData} {v : V} (e : toPyS st x = some d) (s : StR K mg G H st) (h : RB K mg G H x v) : Dp K H v d := by
  unfold toPyS at e
  split at e
  · rename_i i
    split at e
    · rename_i xs hi
      cases q : toPys xs with
      | none => rw [q] at e; cases e
      | some ds =>
        rw [q] at e; cases e
        obtain ⟨a, us, rfl, hh, r⟩ := asLst_ok (x := .obj i) (xs := xs) (by simp only [asLst, hi]) s h
        exact .lst (.of hh) (toPys_ok q r)
    · cases e
  · exact toPyB_ok e h
theorem allFlat_ok : ∀ {xs : List Vl} {us : List V}, allFlat xs = true → RVs K mg G H xs us → us.all flatV = true
  | [], _, _, h => by cases h; rfl
  | x :: xs, us, e, h => by
    cases h with
    | cons r t =>
      rw [List.all_cons, Bool.and_eq_true]
      cases x <;> first
        | (cases r; exact ⟨rfl, allFlat_ok (by simpa [allFlat] using e) t⟩)
        | cases e
theorem flat_eq : ∀ {x y : Vl} {d e : PyData} {u v : V}, toPy x = some d → toPy y = some e → RV K mg G H x u → RV K mg G H y v → flatV u = true → flatV v = true → PyData.eqv d e = eqV u v := by
  intro x y d e u v h1 h2 r1 r2 f1 f2
  cases r1 <;> first | cases f1 | skip
  all_goals cases r2 <;> first | cases f2 | skip
  all_goals (cases h1; cases h2; first | rfl | (simp [PyData.eqv, eqV]; done) | (cases ‹Bool› <;> simp [PyData.eqv, eqV] <;> done) | skip)
theorem inV_ok {x : Vl} {d : PyData} {u : V} (h1 : toPy x = some d) (r1 : RV K mg G H x u) (f1 : flatV u = true) : ∀ {xs : List Vl} {ds : List PyData} {us : List V}, toPys xs = some ds → RVs K mg G H xs us → us.all flatV = true →
    (ds.any fun z => PyData.eqv z d) = inV u us
  | [], _, _, e, h, _ => by cases h; cases e; rfl
  | y :: ys, ds, us, e, h, f => by
    cases h with
    | cons r t =>
      rw [List.all_cons, Bool.and_eq_true] at f
      unfold toPys at e
      split at e
      · rename_i d2 ds' e1 e2
        cases e
        have ih := inV_ok h1 r1 f1 e2 t f.2
        unfold inV at ih ⊢
        rw [List.any_cons, List.any_cons, ih, flat_eq e1 h1 r r1 f.1 f1]
      · cases e
end
end LG

set_option Elab.async false
set_option linter.all false
set_option maxRecDepth 100000
set_option maxHeartbeats 4000000
/-! G6: each operation does what its function says. -/
namespace LG
open PySem L2 PySem.Spec PyProof.Rows

/-- what a value rule hands on -/
def Giv (K : PySem.W.Frag) (mg : Str → Option Value) (G : Gh) (H : Hp) (st : Sto) (z : Vl) (Q : VK) : Prop := ∀ v G' H', Ext G H G' H' → StR K mg G' H' st → RV K mg G' H' z v → Q v H'
section
variable {X : Cx} {G : Gh} {H : Hp} {st : Sto} {Q : VK}
theorem giv_new {p : Addr} {us : List V} {xs : List Vl} (g : Giv X.K X.mg G H st (.tup xs) Q) (s : StR X.K X.mg G H st) (hp : H p = none) (r : RVs X.K X.mg G H xs us) : Q (.ref p) (upd H p (.tup us)) :=
  g _ G _ (ext_new hp) (s.new hp) (.tup (stT_new s hp) (r.ext (ext_new hp)))
theorem giv_lst {p : Addr} {us : List V} {xs : List Vl} (g : Giv X.K X.mg G H st (.lst xs) Q) (s : StR X.K X.mg G H st) (hp : H p = none) (r : RVs X.K X.mg G H xs us) : Q (.ref p) (upd H p (.lst us)) :=
  g _ G _ (ext_new hp) (s.new hp) (.lst (s.nmt hp) upd_same (r.ext (ext_new hp)))
theorem giv_same {z : Vl} {v : V} (g : Giv X.K X.mg G H st z Q) (s : StR X.K X.mg G H st) (r : RV X.K X.mg G H z v) : Q v H := g v G H .refl s r

/-! ### binary operators -/
theorem op_mulS : OpR X (binaryOp .Mult) (fun x y H Q => ∃ z k, x = .str z ∧ y = .int k ∧ -(2 ^ 63) ≤ k ∧ k ≤ 4096 ∧ z.length ≤ 4096 ∧ Q (.str (Txt.mul z k)) H) := by
  intro pins s σ H x y v u Q I rx ry ⟨z, k, ex, ey, h1, h2, h3, q⟩
  subst ex ey
  obtain ⟨t, rfl⟩ := rx
  obtain ⟨t', rfl⟩ := ry
  refine PySem.SB.mul ⟨?_, fun g _ => ?_, fun g _ => ?_⟩ fun t2 k2 => ⟨.str _, H, I.tok _, ⟨_, rfl⟩, q⟩
  · rw [decide_eq_false (by omega), decide_eq_false (by omega)]; rfl
  · have big : (4096 : Int) ≤ (2 ^ 63 - 1) / k := by
      rw [Int.le_ediv_iff_mul_le (by omega)]
      omega
    omega
  · show decide (z.length * k.toNat > sizeLine) = false
    have a1 : z.length * k.toNat ≤ 4096 * 4096 := Nat.mul_le_mul h3 (by omega)
    rw [sizeLine_eq]
    exact decide_eq_false (by omega)
theorem tup_mul0 (l : Addr) (items : Array Value) (n : Nat) (dd : Option Addr) (sl : Array (Option Value)) (x : Int) (u : Tok) (c0 : (decide (x < -(2 ^ 63)) || decide (x ≥ 2 ^ 63)) = false) (c1 : (items.isEmpty || x == 1) = false) (c2 : (decide (x ≤ 0) || items.isEmpty) = true) :
    Meets (Builtin.«tuple.__mul__» ⟨[.ref l, .int x u], []⟩) (fun _ R s => s.heap.get? l = some { cls := .type "tuple", dict := dd, data := .seq items n, slots := sl } ∧
      R (.ok (.ret (Value.ref s.heap.objs.size))) { s with heap := s.heap.push { cls := Value.type "tuple", data := Data.seq #[] }, toks := s.toks }) :=
  .of_wp fun prog w A R s h => by
    obtain ⟨hp, g, d, tk, os⟩ := s
    obtain ⟨hl, h⟩ := h
    have f1 := AutoSeq1.idx_int
    have hsz : (#[] : Array Value).size ≤ sizeLine := by rw [sizeLine_eq]; decide
    wp_walk using wpAny_loadPart' hl
    repeat (first
      | (refine wpAny_ite_false (decide_eq_false fun z => by rw [c0] at z; cases z) ?_; wp_walk using wpAny_loadPart' hl)
      | (refine wpAny_ite_false (decide_eq_false fun z => by rw [c1] at z; cases z) ?_; wp_walk using wpAny_loadPart' hl)
      | (refine wpAny_ite_true (decide_eq_true (by rw [c2])) ?_; wp_walk using wpAny_loadPart' hl)
      | (refine wpAny_ite_false (decide_eq_false fun z => absurd hsz (Nat.not_le.mpr z)) ?_; wp_walk using wpAny_loadPart' hl))
    exact ⟨_, rfl, h⟩
theorem tup_mul1 (l : Addr) (items : Array Value) (n : Nat) (dd : Option Addr) (sl : Array (Option Value)) (x : Int) (u : Tok) (c0 : (decide (x < -(2 ^ 63)) || decide (x ≥ 2 ^ 63)) = false) (c1 : (items.isEmpty || x == 1) = true) :
    Meets (Builtin.«tuple.__mul__» ⟨[.ref l, .int x u], []⟩) (fun _ R s => s.heap.get? l = some { cls := .type "tuple", dict := dd, data := .seq items n, slots := sl } ∧ R (.ok (.ret (Value.ref l))) s) :=
  .of_wp fun prog w A R s h => by
    obtain ⟨hp, g, d, tk, os⟩ := s
    obtain ⟨hl, h⟩ := h
    have f1 := AutoSeq1.idx_int
    wp_walk using wpAny_loadPart' hl
    repeat (first
      | (refine wpAny_ite_false (decide_eq_false fun z => by rw [c0] at z; cases z) ?_; wp_walk using wpAny_loadPart' hl)
      | (refine wpAny_ite_true (decide_eq_true (by rw [c1])) ?_; wp_walk using wpAny_loadPart' hl))
    exact ⟨_, rfl, h⟩
/-- t * k -/
def rRepA (K : PySem.W.Frag) : R2 := fun x y H Q => ∃ l k xs, x = .ref l ∧ y = .int k ∧ SqT K H l xs ∧ -(2 ^ 63) ≤ k ∧ k ≤ 1000 ∧ xs.length ≤ 1000 ∧ (xs = [] ∨ k = 1 → Q (.ref l) H) ∧ (xs ≠ [] → k ≠ 1 → ∀ p, H p = none → Q (.ref p) (upd H p (.tup (List.replicate k.toNat xs).flatten)))
theorem op_repA : OpR X (binaryOp .Mult) (rRepA X.K) := by
  intro pins s σ H x y v u Q I rx ry ⟨l, k, xs, ex, ey, hT, h1, h2, hz, q1, q2⟩
  by_cases hne : xs ≠ [] ∧ 2 ≤ k
  · exact op_repT pins s σ H x y v u Q I rx ry ⟨l, k, xs, ex, ey, hT, hne.1, hne.2, h2, hz, q2 hne.1 (by omega)⟩
  · subst ex ey
    cases rx
    obtain ⟨t, rfl⟩ := ry
    obtain ⟨its, r, ⟨⟨cls, dd, data, sl⟩, ho, hc, n, hd⟩, hs⟩ := I.tuple hT
    simp only at hc hd
    subst hc hd
    have len := r.length
    have c0 : (decide (k < -(2 ^ 63)) || decide (k ≥ 2 ^ 63)) = false := by
      rw [decide_eq_false (by omega), decide_eq_false (by omega)]; rfl
    have go : ∀ {R : Value → Shared → Prop}, (∀ (A : Around) (E : Value → Shared → Prop), wpAny (model X.prog X.w) A (call (.builtin "tuple.__mul__") [.ref l, .int k t]) R E s) → wpAny (model X.prog X.w) X.A (binaryOp .Mult (.ref l) (.int k t)) R X.xe s := fun {R} hcall =>
      wpAny_binaryOp_repeat_ref (T := "tuple") (U := "int") (by decide) ⟨_, ho, rfl⟩ (fun s' => PySem.typeIs_int s' k t) noFill_tuple_mul F.fills_int_mul F.slot_int_rmul repeat_tuple F.slot_int_index.lookup
        (call_meets F.slot_int_rmul (PySem.typeIs_int s k t) F.entry_int_rmul (F.args_int_rmul_2 _ _) (int_rmul_tuple k t l its.toArray n dd sl) ⟨ho, rfl, ⟨_, ho, rfl⟩, hcall _ _⟩)
    by_cases hx : xs = [] ∨ k = 1
    · have c1 : (its.toArray.isEmpty || k == 1) = true := by
        rcases hx with hx | hx
        · subst hx
          cases r
          rfl
        · subst hx
          simp
      exact go fun A E => call_meets F.slot_tuple_mul ⟨_, ho, rfl⟩ F.entry_tuple_mul (F.args_tuple_mul_2 _ _) (tup_mul1 l its.toArray n dd sl k t c0 c1) ⟨ho, .ref l, H, I, rfl, q1 hx⟩
    · have hx1 : xs ≠ [] := fun z => hx (.inl z)
      have hx2 : k ≠ 1 := fun z => hx (.inr z)
      have hk : k ≤ 0 := Int.not_lt.mp fun z => hne ⟨hx1, by omega⟩
      have c1 : (its.toArray.isEmpty || k == 1) = false := by
        cases r with
        | nil => exact absurd rfl hx1
        | cons _ _ =>
          show (false || k == 1) = false
          rw [Bool.false_or]
          exact beq_eq_false_iff_ne.mpr hx2
      have c2 : (decide (k ≤ 0) || its.toArray.isEmpty) = true := by rw [decide_eq_true hk]; rfl
      have e0 : k.toNat = 0 := by omega
      have q := q2 hx1 hx2
      rw [e0] at q
      exact go fun A E => call_meets F.slot_tuple_mul ⟨_, ho, rfl⟩ F.entry_tuple_mul (F.args_tuple_mul_2 _ _) (tup_mul0 l its.toArray n dd sl k t c0 c1 c2)
        ⟨ho, .ref s.heap.objs.size, _, I.laid (t' := s.toks) (o := .tup []) (fun b ob q => Heap.get?_push_of_some _ q) (Nat.le_refl _) ⟨Nat.zero_le _, [], .nil, IsTup.new _ _⟩, rfl, q _ (I.hok.fresh (Nat.le_refl _))⟩
def rBin (K : PySem.W.Frag) (mg : Str → Option Value) (o : Bop) : R2 := fun x y H Q => ∃ G st xv yv z, binM o st xv yv = some z ∧ StR K mg G H st ∧ RB K mg G H xv x ∧ RB K mg G H yv y ∧ Giv K mg G H st z Q
theorem op_bin (o : Bop) : OpR X (binaryOp o.py) (rBin X.K X.mg o) := by
  intro pins s σ H x y v u Q I rx ry ⟨G, st, xv, yv, z, e, hs, hx, hy, g⟩
  unfold binM at e
  split at e
  · -- ints
    cases e
    cases rb_int hx
    cases rb_int hy
    exact op_add pins s σ H _ _ v u Q I rx ry ⟨_, _, rfl, rfl, giv_same g hs (.int _)⟩
  · rename_i a b
    split at e
    · rename_i hz
      cases e
      cases rb_str hx
      cases rb_str hy
      exact op_add_str pins s σ H _ _ v u Q I rx ry ⟨_, _, rfl, rfl, hz, giv_same g hs (.str _)⟩
    · cases e
  · rename_i a b
    split at e
    · rename_i hz
      cases e
      obtain ⟨p, us, rfl, t1, r1⟩ := rb_tup hx
      obtain ⟨q, ws, rfl, t2, r2⟩ := rb_tup hy
      have l1 := r1.length
      have l2 := r2.length
      refine op_catA pins s σ H _ _ v u Q I rx ry ⟨p, q, us, ws, rfl, rfl, t1.sq, t2.sq, by omega, fun h => ?_, fun h1 h2 => ?_, fun h1 h2 p hp => giv_new g hs hp (r1.append r2)⟩
      · subst h
        cases r1
        exact giv_same g hs (.tup t2 r2)
      · subst h2
        cases r2
        rw [List.append_nil] at g
        exact giv_same g hs (.tup t1 r1)
    · cases e
  · split at e
    · rename_i a b e1 e2
      split at e
      · rename_i hz
        cases e
        obtain ⟨p, us, rfl, h1, r1⟩ := asLst_ok e1 hs hx
        obtain ⟨q, ws, rfl, h2, r2⟩ := asLst_ok e2 hs hy
        have l1 := r1.length
        have l2 := r2.length
        exact op_cat pins s σ H _ _ v u Q I rx ry ⟨p, q, us, ws, rfl, rfl, h1, h2, by omega, fun p hp => giv_lst g hs hp (r1.append r2)⟩
      · cases e
    · cases e
  · cases e
    cases rb_int hx
    cases rb_int hy
    exact op_sub pins s σ H _ _ v u Q I rx ry ⟨_, _, rfl, rfl, giv_same g hs (.int _)⟩
  · split at e
    · rename_i hc
      cases e
      cases rb_int hx
      cases rb_int hy
      exact op_mul pins s σ H _ _ v u Q I rx ry ⟨_, _, rfl, rfl, hc, giv_same g hs (.int _)⟩
    · cases e
  · split at e
    · rename_i hc
      cases e
      cases rb_int hx
      cases rb_int hy
      exact op_mod pins s σ H _ _ v u Q I rx ry ⟨_, _, rfl, rfl, hc, giv_same g hs (.int _)⟩
    · cases e
  · split at e
    · rename_i hc
      cases e
      cases rb_int hx
      cases rb_int hy
      exact op_fdiv pins s σ H _ _ v u Q I rx ry ⟨_, _, rfl, rfl, hc, giv_same g hs (.int _)⟩
    · cases e
  · split at e
    · rename_i hc
      cases e
      cases rb_int hx
      cases rb_int hy
      exact op_pow pins s σ H _ _ v u Q I rx ry ⟨_, _, rfl, rfl, hc, giv_same g hs (.int _)⟩
    · cases e
  · split at e
    · rename_i hc
      cases e
      cases rb_str hx
      cases rb_int hy
      exact op_mulS pins s σ H _ _ v u Q I rx ry ⟨_, _, rfl, rfl, hc.1, hc.2.1, hc.2.2, giv_same g hs (.str _)⟩
    · cases e
  · rename_i a j
    split at e
    · rename_i hc
      cases e
      obtain ⟨p, us, rfl, t1, r1⟩ := rb_tup hx
      cases rb_int hy
      have l1 := r1.length
      refine op_repA pins s σ H _ _ v u Q I rx ry ⟨p, _, us, rfl, rfl, t1.sq, hc.1, hc.2.1, by omega, fun h => ?_, fun h1 h2 p hp => giv_new g hs hp (r1.flat _)⟩
      rcases h with h | h
      · subst h
        cases r1
        have fl : ∀ n, (List.replicate n ([] : List Vl)).flatten = [] := fun n => by
          induction n with
          | zero => rfl
          | succ n ih => rw [List.replicate_succ, List.flatten_cons, ih]; rfl
        rw [fl] at g
        exact giv_same g hs (.tup t1 .nil)
      · subst h
        have e1 : (List.replicate (1 : Int).toNat a).flatten = a := by
          show (List.replicate 1 a).flatten = a
          rw [List.replicate_succ, List.replicate_zero, List.flatten_cons, List.flatten_nil, List.append_nil]
        rw [e1] at g
        exact giv_same g hs (.tup t1 r1)
    · cases e
  · split at e
    · rename_i a e1
      split at e
      · rename_i hc
        cases e
        obtain ⟨p, us, rfl, h1, r1⟩ := asLst_ok e1 hs hx
        cases rb_int hy
        have l1 := r1.length
        exact op_rep pins s σ H _ _ v u Q I rx ry ⟨p, _, us, rfl, rfl, h1, hc.1, hc.2.1, by rw [← l1]; exact hc.2.2, fun p hp => giv_lst g hs hp (r1.flat _)⟩
      · cases e
    · cases e
  · cases e

/-! ### comparisons -/
def rCmp (K : PySem.W.Frag) (mg : Str → Option Value) (o : Cop) : R2 := fun x y H Q => ∃ G st xv yv z, cmpM o st xv yv = some z ∧ StR K mg G H st ∧ RB K mg G H xv x ∧ RB K mg G H yv y ∧ Q (.bl z) H
theorem isNon {K : PySem.W.Frag} {mg : Str → Option Value} {xv : Vl} {x : V} (hx : RB K mg G H xv x) : decide (x = .non) = isNonB xv := by
  rcases hx with h | ⟨_, _, _, rfl, rfl, _⟩
  · cases h <;> simp [isNonB]
  · simp [isNonB]
theorem op_cmp (hu : X.A.units + 65 < cLine) (o : Cop) : OpR X (compareOp o.py) (rCmp X.K X.mg o) := by
  intro pins s σ H x y v u Q I rx ry ⟨G, st, xv, yv, z, e, hs, hx, hy, g⟩
  have hu1 : X.A.units + 64 < cLine := Nat.lt_of_lt_of_le (Nat.lt_succ_self _) (Nat.le_of_lt hu)
  have hu2 : X.A.units + 1 < cLine := by omega
  unfold cmpM at e
  split at e
  · unfold eqM at e
    split at e
    · rename_i d1 d2 e1 e2
      split at e
      · rename_i hc
        rw [Bool.and_eq_true] at hc
        cases e
        exact op_eqD hu1 pins s σ H _ _ v u Q I rx ry ⟨_, _, toPyS_ok e1 hs hx, toPyS_ok e2 hs hy, hc.1, hc.2, g⟩
      · cases e
    · cases e
  · unfold eqM at e
    split at e
    · rename_i d1 d2 e1 e2
      split at e
      · rename_i hc
        rw [Bool.and_eq_true] at hc
        cases e
        exact op_neD hu1 pins s σ H _ _ v u Q I rx ry ⟨_, _, toPyS_ok e1 hs hx, toPyS_ok e2 hs hy, hc.1, hc.2, g⟩
      · cases e
    · cases e
  · cases e; cases rb_int hx; cases rb_int hy
    exact op_lt pins s σ H _ _ v u Q I rx ry ⟨_, _, rfl, rfl, g⟩
  · cases e; cases rb_int hx; cases rb_int hy
    exact op_le pins s σ H _ _ v u Q I rx ry ⟨_, _, rfl, rfl, g⟩
  · cases e; cases rb_int hx; cases rb_int hy
    exact op_gt pins s σ H _ _ v u Q I rx ry ⟨_, _, rfl, rfl, g⟩
  · cases e; cases rb_int hx; cases rb_int hy
    exact op_ge pins s σ H _ _ v u Q I rx ry ⟨_, _, rfl, rfl, g⟩
  · cases e; cases rb_str hx; cases rb_str hy
    exact op_lt_str pins s σ H _ _ v u Q I rx ry ⟨_, _, rfl, rfl, g⟩
  · cases e; cases rb_str hx; cases rb_str hy
    exact op_le_str pins s σ H _ _ v u Q I rx ry ⟨_, _, rfl, rfl, g⟩
  · cases e; cases rb_str hx; cases rb_str hy
    exact op_gt_str pins s σ H _ _ v u Q I rx ry ⟨_, _, rfl, rfl, g⟩
  · cases e; cases rb_str hx; cases rb_str hy
    exact op_ge_str pins s σ H _ _ v u Q I rx ry ⟨_, _, rfl, rfl, g⟩
  · cases e; cases rb_non hy
    exact op_isN pins s σ H _ _ v u Q I rx ry ⟨rfl, by rw [isNon hx]; exact g⟩
  · cases e; cases rb_non hy
    refine op_notN pins s σ H _ _ v u Q I rx ry ⟨rfl, ?_⟩
    rw [isNon hx]
    exact g
  · cases e; cases rb_str hx; cases rb_str hy
    exact op_in_str pins s σ H _ _ v u Q I rx ry ⟨_, _, rfl, rfl, g⟩
  · cases e; cases rb_str hx; cases rb_str hy
    exact op_notin_str pins s σ H _ _ v u Q I rx ry ⟨_, _, rfl, rfl, g⟩
  · split at e
    · rename_i kvs k e1 e2
      cases e
      obtain ⟨a, us, rfl, h1, r1⟩ := asDk_ok e1 hs hy
      cases toKey_ok e2 hx
      cases ry
      rw [valD_some r1] at g
      exact d_in hu2 I (DGet.k h1) rx fun s' I' => ⟨.bl (valV us k).isSome, H, I', rfl, g⟩
    · split at e
      · rename_i xs e3
        split at e
        · rename_i hc
          rw [Bool.and_eq_true] at hc
          split at e
          · rename_i d ds e4 e5
            cases e
            obtain ⟨a, us, rfl, h1, r1⟩ := asSeq_ok e3 hs hy
            have hx' : RV X.K X.mg G H xv x := hx.rv (by cases xv <;> first | rfl | (simp [allFlat] at hc))
            have f1 : flatV x = true := by have := allFlat_ok hc.1 (RVs.one hx'); simpa using this
            have f2 := allFlat_ok hc.2 r1
            rw [inV_ok e4 hx' f1 e5 r1 f2] at g
            exact op_in_seq pins s σ H _ _ v u Q I rx ry ⟨_, _, rfl, h1, f1, f2, g⟩
          · cases e
        · cases e
      · cases e
  · split at e
    · rename_i kvs k e1 e2
      cases e
      obtain ⟨a, us, rfl, h1, r1⟩ := asDk_ok e1 hs hy
      cases toKey_ok e2 hx
      cases ry
      rw [valD_some r1] at g
      exact d_notIn hu2 I (DGet.k h1) rx fun s' I' => ⟨.bl (!(valV us k).isSome), H, I', rfl, g⟩
    · split at e
      · rename_i xs e3
        split at e
        · rename_i hc
          rw [Bool.and_eq_true] at hc
          split at e
          · rename_i d ds e4 e5
            cases e
            obtain ⟨a, us, rfl, h1, r1⟩ := asSeq_ok e3 hs hy
            have hx' : RV X.K X.mg G H xv x := hx.rv (by cases xv <;> first | rfl | (simp [allFlat] at hc))
            have f1 : flatV x = true := by have := allFlat_ok hc.1 (RVs.one hx'); simpa using this
            have f2 := allFlat_ok hc.2 r1
            rw [inV_ok e4 hx' f1 e5 r1 f2] at g
            exact op_notIn_seq pins s σ H _ _ v u Q I rx ry ⟨_, _, rfl, h1, f1, f2, g⟩
          · cases e
        · cases e
      · cases e
  · cases e
end
end LG

set_option Elab.async false
set_option linter.all false
set_option maxRecDepth 100000
set_option maxHeartbeats 4000000
/-! G6e: errors as values: their class, their attribute. -/
namespace PySem.W
open PySem.Spec PyProof.Rows
section
variable {K : Frag} {prog : Program} {w : World} {A : Around} {E : Value → Shared → Prop} {s : Shared} {x D : Addr} {ox : Obj} {od : Option Obj}
theorem lg_obj_class {C : Addr} {name : Str} {a g : Value} (hc : (clsIn K C).isSome = true) (ha : findIn K (.ref C) name = some (some a)) (hg : specialIn K a "__get__" = some (some g)) (ht : takesIn K a = some true) : findObj K C od name = some (.bind g a) := by
  obtain ⟨cd, hc⟩ := Option.isSome_iff_exists.mp hc
  unfold findObj
  rw [hc, Option.bind_some, ha, Option.bind_some]
  simp [hg, ht]
theorem lg_class_of {Q : Option Value → Shared → Prop} (T : L2.ExcC K D)
    (X : K.In s.heap) (I : InstAt s.heap x ox D od) (h : Q (some (.ref D)) { s with toks := s.toks + 1 }) : wpAny (model prog w) A (getAttr? (.ref x) "__class__") Q E s := by
  have hf : findObj K D od "__class__" = some (.bind (.builtin "getset_descriptor.__get__") (.builtin "object.__class__")) := lg_obj_class (by obtain ⟨cd, hc, _⟩ := any_some T.hd; rw [hc]; rfl) T.ha T.hn T.ht
  obtain ⟨hp, g, d, t, os⟩ := s
  have k0 := I.type (M := model prog w)
  have k1 := looks_findIn (M := model prog w) X T.hg
  have k2 := looks_findIn (M := model prog w) X T.hk
  have k3 := looks_find (M := model prog w) X I hf
  have sub : Looks (model prog w) hp (isInstance (.ref x) (.type "BaseException")) true := k0.andThen (looks_subIn X T.hs)
  have b0 : (false && onTheHeap (Value.builtin "BaseException.__getattribute__")) = false := rfl
  have b2 : (Value.builtin "BaseException.__getattribute__" == Value.builtin "object.__getattribute__") = false := by decide +kernel
  have b1 : (onTheHeap (Value.ref D) && Value.builtin "BaseException.__getattribute__" == Value.builtin "object.__getattribute__") = false := by rw [b2]; rfl
  unfold getAttr? getAttrBy? getAttrBy
  refine wpAny_bind (wpAny_mkText (wpAny_bind (wpAny_attempt (wpAny_holding (wpAny_bind (k0.at (wpAny_bind (k1.at ?_))))))))
  show wpAny _ _ (if (onTheHeap (Value.ref D) && Value.builtin "BaseException.__getattribute__" == Value.builtin "object.__getattribute__") = true then _ else _) _ _ _
  rw [b1, if_neg Bool.false_ne_true]
  unfold getAttrByItsOwn hookBefore
  refine wpAny_bind ?_
  rw [if_pos (show onTheHeap (Value.ref D) = true from rfl)]
  refine k2.at ?_
  refine wpAny_bind (wpAny_attempt (wpAny_holding ?_))
  unfold callGetattribute
  rw [b0, if_neg Bool.false_ne_true]
  unfold boundAndCalled
  rw [PySem.F.excAttr_ValueError.ga.bind (.ref x)]
  refine wpAny_bind (wpAny_pure ?_)
  show wpAny _ _ (call (.builtin "BaseException.__getattribute__") [.ref x, .str "__class__" t]) _ _ _
  refine wpAny_call (codeAny_call_builtin PySem.F.excAttr_ValueError.ga.plain PySem.F.entry_bexc_ga ?_)
  refine @check_slot (model prog w) _ _ ⟨hp, g, d, t + 1, os⟩ "BaseException.__getattribute__" "BaseException" "__getattribute__" (.ref x) [.str "__class__" t] [] _ (by decide +kernel) (by decide +kernel) sub (PySem.F.args_bexc_ga (.ref x) (.str "__class__" t)) ?_
  unfold Builtin.«object.__getattribute__»
  refine wpAny_bind (wpAny_of_eq (a := ((Value.ref x : Value), [Value.str "__class__" t])) (by first | rfl | (simp only [slotArgs]; rfl)) ?_)
  refine wpAny_bind (wpAny_pure (wpAny_bind (k0.at (wpAny_bind (k3.at ?_)))))
  show wpAny _ _ (holding [Value.builtin "object.__class__"] (call (.builtin "getset_descriptor.__get__") [.builtin "object.__class__", .ref x, .ref D]) >>= ret) _ _ _
  refine wpAny_bind (wpAny_holding (wpAny_call (class_get (s := ⟨hp, g, d, t + 1, os⟩) (ox := ox) (od := od) X I T.hm ?_)))
  refine wpAny_pure ?_
  show wpAny _ _ (handedOut (.ref D)) _ _ _
  rw [handedOut_of (v := .ref D) rfl]
  first
    | exact wpAny_pure (wpAny_pure h)
    | exact wpAny_pure h
    | exact wpAny_pure (wpAny_bind (wpAny_pure (wpAny_pure h)))
theorem lg_kitx (T : L2.ExcC K D) : KitX K (.ref x) (.ref D) (fun h => ∃ ox od, InstAt h x ox D od) where
  ty := fun _ _ _ ⟨_, _, I⟩ => I.type
  it := fun _ _ X _ => by
    obtain ⟨cdD, hcD, _⟩ := any_some T.hd
    unfold clsIn at hcD
    split at hcD
    · rename_i c' d' cd' sl' ho
      intro A' Q' E' s' k q
      unfold isType loadHead
      exact wpAny_bind (wpAny_loadPart (k _ _ (X _ _ ho)) (wpAny_pure q))
    · cases hcD
  ne := fun h tp dd its n sl X htp => by
    obtain ⟨cdD, hcD, _⟩ := any_some T.hd
    refine Bool.eq_false_iff.mpr fun q => ?_
    have e : D = tp := Value.ref.inj (beq_iff_eq.mp q)
    subst e
    unfold clsIn at hcD
    split at hcD
    · rename_i c' d' cd' sl' ho
      have z := (X _ _ ho).symm.trans htp
      cases z
    · cases hcD
  ca := fun X ⟨_, _, I⟩ k => lg_class_of T X I k
end
end PySem.W
namespace LG
open PySem L2 PySem.Spec PyProof.Rows
/-- the type of a value: of an error, too -/
inductive TyY (K : PySem.W.Frag) (H : Hp) : L2.V → Value → Prop
  | x {x : L2.V} {t : Value} : TyX K H x t → TyY K H x t
  | er {a C d : Addr} {fs : List (Str × L2.V)} : L2.ExcC K C → H a = some (errO a C d) → H d = some (.xd fs) → TyY K H (.ref a) (.ref C)
section
variable {X : Cx} {pins : List (Addr × Obj)} {σ : L2.St} {H : Hp} {s : Shared}
/-- an error in the heap -/
theorem err_inst {a C d : Addr} {fs : List (Str × L2.V)} (I : Inv X pins σ H s) (ha : H a = some (errO a C d)) (hd : H d = some (.xd fs)) : ∃ ox od, PySem.W.InstAt s.heap a ox C (some od) ∧ ∀ f, RelO (fs.lookup f) (match PySem.W.lookIn f od with | some m => m | none => none) ∧ ∃ m, PySem.W.lookIn f od = some m := by
  obtain ⟨oe, vs, h1, h2, h3, h4⟩ := (show ∃ (oe : Obj) (vs : Array Value), s.heap.get? a = some oe ∧ oe.cls = .ref C ∧ oe.dict = some d ∧ oe.data = .fields vs from (I.hok a _ ha).1)
  have hx : ObjOk X.prog X.w H s.heap d (.xd fs) := I.hok d _ hd
  obtain ⟨mA, hns, hr⟩ := hx
  obtain ⟨od, ho, hl⟩ := lookIn_ns hns
  refine ⟨oe, od, ⟨h1, h2, by unfold PySem.W.notCls; rw [h4] <;> rfl, by rw [h3]; exact ho⟩, fun f => ⟨?_, _, hl f⟩⟩
  rw [hl]
  exact hr f
theorem kit_ofY {x : L2.V} {u t : Value} (I : Inv X pins σ H s) (rx : RelV x u) (ty : TyY X.K H x t) : ∃ P : Heap → Prop, PySem.W.KitX X.K u t P ∧ P s.heap ∧ u ≠ .builtin "__main__.__loader__#opaque" := by
  cases ty with
  | x h => exact kit_of I rx h
  | er T ha hd =>
    cases rx
    obtain ⟨ox, od, J, _⟩ := err_inst I ha hd
    exact ⟨_, PySem.W.lg_kitx T, ⟨ox, some od, J⟩, fun z => nomatch z⟩
def rIsY (K : PySem.W.Frag) : List L2.V → Hp → VK → Prop := fun xs H Q => ∃ (x c : L2.V) (t u : Value) (b : Bool), xs = [x, c] ∧ ClsV c u ∧ TyY K H x t ∧ PySem.W.kitOne K t u = some b ∧ Q (.bl b) H
def rIsTY (K : PySem.W.Frag) : List L2.V → Hp → VK → Prop := fun xs H Q => ∃ (x : L2.V) (tp : Addr) (cs : List L2.V) (t : Value) (us : List Value) (b : Bool), xs = [x, .ref tp] ∧ H tp = some (.tup cs) ∧ Paired ClsV cs us ∧ TyY K H x t ∧ PySem.W.kitAny K t us = some b ∧ Q (.bl b) H
theorem call_isY : CallR X (.builtin "isinstance") (rIsY X.K) := by
  intro pins s σ H xs us Q I r h
  obtain ⟨x, c, t, u, b, rfl, k, ty, e, q⟩ := h
  obtain ⟨u1, u2, rfl, r1, r2⟩ := vals2 r
  have e2 := k.eq r2
  subst e2
  obtain ⟨P, Z, p, hx⟩ := kit_ofY I r1 ty
  exact PySem.W.kia_one Z I.kIn p e hx fun tk => ⟨.bl b, H, I.tok tk, rfl, q⟩
theorem call_isTY : CallR X (.builtin "isinstance") (rIsTY X.K) := by
  intro pins s σ H xs us Q I r h
  obtain ⟨x, tp, cs, t, ws, b, rfl, hT, k, ty, e, q⟩ := h
  obtain ⟨u1, u2, rfl, r1, r2⟩ := vals2 r
  cases (show u2 = Value.ref tp from r2)
  obtain ⟨P, Z, p, hx⟩ := kit_ofY I r1 ty
  obtain ⟨_, its, rv, o, h1, h2, n, h3⟩ := (show ObjOk X.prog X.w H s.heap tp (.tup cs) from I.hok tp _ hT)
  have e3 := ClsV.all k rv
  subst e3
  obtain ⟨oc, od, dt, sl⟩ := o
  simp only at h2 h3
  subst h2 h3
  exact PySem.W.kia_tup Z I.kIn p h1 e hx fun tk => ⟨.bl b, H, I.tok tk, rfl, q⟩
/-- an error's attribute -/
def tErA (K : PySem.W.Frag) (f : Str) (te : TE) : TE := fun σ H Q => te σ H fun x H1 => ∃ (a C d : Addr) (fs : List (Str × L2.V)) (v : L2.V), x = .ref a ∧ L2.ExcC K C ∧ PySem.W.findIn K (.ref C) f = some none ∧ H1 a = some (errO a C d) ∧ H1 d = some (.xd fs) ∧ fs.lookup f = some v ∧ Q v H1
theorem pe_erA {e : Expr} {te : TE} {pos : Pos} {n : Str} (he : PE X e te) (hb : attributeBase e n X.env (eval e X.env) = eval e X.env) : PE X (.Attribute e n pos) (tErA X.K n te) := by
  refine ⟨fun pins s σ H Q I h => ?_⟩
  refine attr_of hb (thn (he.run pins s σ H _ I h) fun u s1 hh => ?_)
  obtain ⟨x, H1, I1, rx, a, C, d, fs, v, ex, T, hno, ha, hd, l, q⟩ := hh
  subst ex
  obtain rfl : u = Value.ref a := rx
  obtain ⟨ox, od, J, hl⟩ := err_inst I1 ha hd
  obtain ⟨r1, m, hm⟩ := hl n
  rw [hm] at r1
  obtain ⟨u, hu, ru⟩ := RelO.some_of (v := v) (o := m) (by rw [← l]; exact r1)
  exact HandSPX.exc_get I1.kIn J T.hg T.hk T.hs (PySem.W.findObj_own T.hd hno rfl (by rw [hm, hu])) (handed_of ru) ⟨v, H1, I1.tok _, ru, q⟩
end
end LG

set_option Elab.async false
set_option linter.all false
set_option maxRecDepth 100000
set_option maxHeartbeats 4000000
/-! G7: index, slice, truth, isinstance, calls of built-ins. -/
namespace LG
open PySem L2
section
variable {X : Cx} {G : Gh} {H : Hp} {st : Sto} {Q : VK}

/-! ### index -/
theorem ix_dict (hu : X.A.units + 1 < cLine) : IxR X (fun x y H Q => ∃ a v, x = .ref a ∧ DGet H a y (some v) ∧ Q v H) := by
  intro value slice pins s σ H x y v u Q I rx ry ⟨a, w, e, g, q⟩ hs
  subst e
  cases rx
  exact PyProof.Rows.tail_any (dict_typeIs I g) PySem.F.slot_dict_getitem.lookup (d_getItem hu I g ry fun w' s3 I3 rw' => ⟨w, H, I3, rw', q⟩) hs
theorem atI_ok {K : PySem.W.Frag} {mg : Str → Option Value} {xs : List Vl} {us : List V} {i : Int} {x : Vl} (r : RVs K mg G H xs us) (h : atI xs i = some x) : ∃ u, atI us i = some u ∧ RV K mg G H x u := by
  unfold atI at h ⊢
  rw [← r.length]
  cases e : ixN xs.length i with
  | none => rw [e] at h; cases h
  | some j =>
    rw [e] at h
    exact r.get h
def rIdx (K : PySem.W.Frag) (mg : Str → Option Value) : R2 := fun x y H Q => ∃ G st xv yv z, idxM st xv yv = some z ∧ StR K mg G H st ∧ RB K mg G H xv x ∧ RB K mg G H yv y ∧ Giv K mg G H st z Q
theorem ix_all (hu : X.A.units + 1 < cLine) : IxR X (rIdx X.K X.mg) := by
  intro value slice pins s σ H x y v u Q I rx ry ⟨G, st, xv, yv, z, e, hs, hx, hy, g⟩ hsub
  unfold idxM at e
  split at e
  · split at e
    · rename_i hz
      cases q : atI (α := Nat) _ _ with
      | none => rw [q] at e; cases e
      | some c =>
        rw [q] at e; cases e
        cases rb_str hx; cases rb_int hy
        exact ix_str value slice pins s σ H _ _ v u Q I rx ry ⟨_, _, c, rfl, rfl, hz, q, giv_same g hs (.str _)⟩ hsub
    · cases e
  · obtain ⟨a, us, rfl, t, r⟩ := rb_tup hx
    cases rb_int hy
    obtain ⟨w, hw, rw'⟩ := atI_ok r e
    exact ix_tup value slice pins s σ H _ _ v u Q I rx ry ⟨a, us, _, w, rfl, rfl, t.sq, hw, giv_same g hs rw'⟩ hsub
  · split at e
    · rename_i kvs k e1 e2
      obtain ⟨a, us, rfl, h1, r1⟩ := asDk_ok e1 hs hx
      cases toKey_ok e2 hy
      obtain ⟨w, hw, rw'⟩ := (valD_ok r1).1 _ e
      exact ix_dict hu value slice pins s σ H _ _ v u Q I rx ry ⟨a, w, rfl, by rw [← hw]; exact DGet.k h1, giv_same g hs rw'⟩ hsub
    · split at e
      · rename_i xs i e1 _ _ _
        obtain ⟨a, us, rfl, h1, r1⟩ := asList_ok e1 hs hx
        cases rb_int hy
        obtain ⟨w, hw, rw'⟩ := atI_ok r1 e
        exact ix_list value slice pins s σ H _ _ v u Q I rx ry ⟨a, us, _, w, rfl, rfl, h1, hw, giv_same g hs rw'⟩ hsub
      · cases e

/-! ### slices -/
theorem RVs.cut {K : PySem.W.Frag} {mg : Str → Option Value} {xs : List Vl} {us : List V} (r : RVs K mg G H xs us) (lo hi : Option Int) : RVs K mg G H (cutL xs lo hi) (cutV us lo hi) := by
  unfold cutL cutV
  rw [← r.length]
  exact (r.drop _).take _
theorem cutL_whole {xs : List Vl} {lo hi : Option Int} (h : HT.sIx xs.length 0 lo = 0 ∧ HT.sIx xs.length xs.length hi = xs.length) : cutL xs lo hi = xs := by
  unfold cutL
  rw [h.1, h.2]
  simp
def rSlc (K : PySem.W.Frag) (mg : Str → Option Value) : V → Option Int → Option Int → Hp → VK → Prop := fun x lo hi H Q => ∃ G st xv z, slcM st xv lo hi = some z ∧ StR K mg G H st ∧ RB K mg G H xv x ∧ Giv K mg G H st z Q
theorem sl_all : L2.SlR X (rSlc X.K X.mg) := by
  intro pins s σ H x v vl vu lo hi sl Q I rx hsl pl pu ⟨G, st, xv, z, e, hs, hx, g⟩
  unfold slcM at e
  split at e
  · split at e
    · rename_i hz
      cases e
      cases rb_str hx
      exact sl_str pins s σ H _ v vl vu lo hi sl Q I rx hsl pl pu ⟨_, rfl, hz, giv_same g hs (.str _)⟩
    · cases e
  · cases e
    obtain ⟨a, us, rfl, t, r⟩ := rb_tup hx
    refine sl_tupA pins s σ H _ v vl vu lo hi sl Q I rx hsl pl pu ⟨a, us, rfl, t.sq, fun hw => ?_, fun hw p hp => giv_new g hs hp (r.cut lo hi)⟩
    rw [← r.length] at hw
    rw [cutL_whole hw] at g
    exact giv_same g hs (.tup t r)
  · cases q : asList st xv with
    | none => rw [q] at e; cases e
    | some xs =>
      rw [q] at e; cases e
      obtain ⟨a, us, rfl, h1, r1⟩ := asList_ok q hs hx
      exact sl_list pins s σ H _ v vl vu lo hi sl Q I rx hsl pl pu ⟨a, us, rfl, h1, fun p hp => giv_lst g hs hp (r1.cut lo hi)⟩

/-! ### truth -/
theorem RVs.empty {K : PySem.W.Frag} {mg : Str → Option Value} {xs : List Vl} {us : List V} (r : RVs K mg G H xs us) : xs.isEmpty = us.isEmpty := by cases r <;> rfl
theorem RVk.empty {K : PySem.W.Frag} {mg : Str → Option Value} {xs : List (Key × Vl)} {us : List (Key × V)} (r : RVk K mg G H xs us) : xs.isEmpty = us.isEmpty := by cases r <;> rfl
theorem tru_of {K : PySem.W.Frag} {mg : Str → Option Value} {xv : Vl} {x : V} {b : Bool} (e : truM st xv = some b) (hs : StR K mg G H st) (hx : RB K mg G H xv x) : TruV K x H b := by
  unfold truM at e
  split at e
  · cases e; cases rb_non hx; exact (rfl : false = false)
  · cases e; cases rb_bl hx; exact (rfl : _ = _)
  · cases e; cases rb_int hx; exact (rfl : _ = _)
  · split at e
    · rename_i hz
      cases e; cases rb_str hx; exact ⟨hz, rfl⟩
    · cases e
  · split at e
    · rename_i xs q
      cases e
      obtain ⟨a, us, rfl, h, r⟩ := asSeq_ok q hs hx
      rw [r.empty]
      rcases h with h | h
      · exact .inl ⟨us, h, rfl⟩
      · exact .inr (.inl ⟨us, h, rfl⟩)
    · split at e
      · rename_i kvs q
        cases e
        obtain ⟨a, us, rfl, h, r⟩ := asDk_ok q hs hx
        rw [r.empty]
        exact .inr (.inr ⟨us, h, rfl⟩)
      · cases e

/-! ### isinstance -/
/-- what is known of an own class as a class of instances -/
structure OwnC (K : PySem.W.Frag) (C : Addr) : Prop where
  cl : Cls K C
  ha : PySem.W.findIn K (.ref C) "__class__" = some (some (.builtin "object.__class__"))
  hn : PySem.W.specialIn K (.builtin "object.__class__") "__get__" = some (some (.builtin "getset_descriptor.__get__"))
  htk : PySem.W.takesIn K (.builtin "object.__class__") = some true
  hm : PySem.W.mroIn K C (.type "object") = some true
/-- the classes of the text, as isinstance asks -/
structure IsaT (K : PySem.W.Frag) (mg : Str → Option Value) (cls : List Str) : Prop where
  at_ : ∀ n ∈ cls, ∃ C, mg n = some (.ref C)
  own : ∀ n ∈ cls, ¬(n ∈ errN ∨ n = "LetGoError") → ∀ C, mg n = some (.ref C) → OwnC K C
  exc : ∀ n ∈ cls, n ∈ errN → ∀ C, mg n = some (.ref C) → ExcC K C ∧ PySem.W.findIn K (.ref C) (attrOf n) = some none
  two : ∀ n ∈ cls, ∀ m ∈ cls, ∀ C D, mg n = some (.ref C) → mg m = some (.ref D) → PySem.W.kitOne K (.ref C) (.ref D) = some (sub2 n m)
  tyo : ∀ t, t ∈ ["NoneType", "bool", "int", "str", "tuple", "list", "dict"] → ∀ m ∈ cls, ∀ D, mg m = some (.ref D) → PySem.W.kitOne K (.type t) (.ref D) = some false
  oty : ∀ t, t ∈ ["str", "int", "bool", "list", "tuple", "dict"] → ∀ m ∈ cls, ∀ D, mg m = some (.ref D) → PySem.W.kitOne K (.ref D) (.type t) = some false
  ove : ∀ m ∈ cls, m ∈ errN → ∀ D, mg m = some (.ref D) → PySem.W.kitOne K (.ref D) (.type "ValueError") = some true
/-- a class of the own language and its value -/
inductive CnV (mg : Str → Option Value) : Cn → Value → Prop
  | ty (n : String) : CnV mg (.ty n) (.type n)
  | own {n : Str} {C : Addr} : mg n = some (.ref C) → CnV mg (.own n) (.ref C)
theorem SqL_ty {K : PySem.W.Frag} {a : Addr} {us : List V} (h : SqL K H a us) : TyX K H (.ref a) (.type "list") := by
  rcases h with (h | ⟨o, h⟩) | ⟨o, its, n, h, c, _⟩
  · exact .base (.lst h)
  · exact .base (.frz h)
  · exact .kList h c
theorem SqT_ty {K : PySem.W.Frag} {a : Addr} {us : List V} (h : SqT K H a us) : TyX K H (.ref a) (.type "tuple") := by
  rcases h with (h | ⟨o, h⟩) | ⟨o, its, n, h, c, _⟩
  · exact .base (.tup h)
  · exact .fTuple h
  · exact .kTuple h c
theorem tyM_ok {K : PySem.W.Frag} {mg : Str → Option Value} {cls : List Str} {xv : Vl} {x : V} {t : Cn} (T : IsaT K mg cls) (hc : ∀ n, t = .own n → n ∈ cls) (e : tyM st xv = some t) (hs : StR K mg G H st) (hx : RB K mg G H xv x) :
    ∃ tv, CnV mg t tv ∧ TyY K H x tv := by
  unfold tyM at e
  split at e
  · cases e; cases rb_non hx; exact ⟨_, .ty _, .x (.base .non)⟩
  · cases e; cases rb_bl hx; exact ⟨_, .ty _, .x (.base (.bl _))⟩
  · cases e; cases rb_int hx; exact ⟨_, .ty _, .x (.base (.int _))⟩
  · cases e; cases rb_str hx; exact ⟨_, .ty _, .x (.base (.str _))⟩
  · cases e
    obtain ⟨a, us, rfl, t, r⟩ := rb_tup hx
    exact ⟨_, .ty _, .x (SqT_ty t.sq)⟩
  · cases e
    obtain ⟨a, us, rfl, t, r⟩ := asList_ok (x := .lst _) rfl hs hx
    exact ⟨_, .ty _, .x (SqL_ty t)⟩
  · cases e
    obtain ⟨a, us, rfl, t, r⟩ := asList_ok (x := .bor _) rfl hs hx
    exact ⟨_, .ty _, .x (SqL_ty t)⟩
  · cases e
    obtain ⟨a, us, rfl, t, r⟩ := asList_ok (x := .scr _) rfl hs hx
    exact ⟨_, .ty _, .x (SqL_ty t)⟩
  · cases e
    obtain ⟨a, us, rfl, t, r⟩ := asDk_ok (x := .dk _) rfl hs hx
    exact ⟨_, .ty _, .x (.base (.dK t))⟩
  · cases e
    rcases hx with h | ⟨_, _, _, e, _⟩
    · cases h with
      | dt n h r => exact ⟨_, .ty _, .x (.base (.dT h))⟩
    · cases e
  · rename_i i
    rcases hx with h | ⟨_, _, _, e, _⟩
    · cases h with
      | obj hm =>
        split at e
        · rename_i q
          cases e
          obtain ⟨b, hb, ho⟩ := hs.at_ _ _ q
          rw [hm] at hb; cases hb
          cases ho with
          | lst h r => exact ⟨_, .ty _, .x (.base (.lst h))⟩
        · rename_i q
          cases e
          obtain ⟨b, hb, ho⟩ := hs.at_ _ _ q
          rw [hm] at hb; cases hb
          cases ho with
          | dk h r => exact ⟨_, .ty _, .x (.base (.dK h))⟩
        · rename_i q
          cases e
          obtain ⟨b, hb, ho⟩ := hs.at_ _ _ q
          rw [hm] at hb; cases hb
          cases ho with
          | dt h r => exact ⟨_, .ty _, .x (.base (.dT h))⟩
        · rename_i c fs q
          split at e
          · cases e
          · rename_i hne
            cases e
            obtain ⟨b, hb, ho⟩ := hs.at_ _ _ q
            rw [hm] at hb; cases hb
            cases ho with
            | @ins _ _ _ C dx us hg h _ _ =>
              have O := T.own c (hc c rfl) hne C hg
              exact ⟨_, .own hg, .x (.base (.ins h O.cl O.ha O.hn O.htk O.hm))⟩
        · cases e
    · cases e
  · rename_i n y
    split at e
    · rename_i hen
      cases e
      rcases hx with h | ⟨_, _, _, e, _⟩
      · cases h with
        | err hm n1 h1 n2 h2 r => exact ⟨_, .own hm, .er (T.exc _ (hc _ rfl) hen _ hm).1 h1 h2⟩
      · cases e
    · cases e
  · cases e

/-! ### data, to be shown -/
def SysAt (X : Cx) : Prop := ∃ o, X.base.get? sysModules = some o
theorem notSys {pins : List (Addr × Obj)} {σ : L2.St} {s : Shared} {a : Addr} {o : HO} (I : Inv X pins σ H s) (b : SysAt X) (h : H a = some o) : sysModules ≠ a := fun z => by
  obtain ⟨ob, e⟩ := b
  have := (I.bs _ _ e).2
  rw [z, h] at this
  cases this
mutual
theorem rd_ok {pins : List (Addr × Obj)} {σ : L2.St} {s : Shared} (I : Inv X pins σ H s) (b : SysAt X) : ∀ {x : Vl} {d : PyData} {v : V} {u : Value}, toPyD x = some d → RV X.K X.mg G H x v → RelV v u → ∃ as, Reads s.heap u d as ∧ sysModules ∉ as
  | .non, _, _, _, e, h, r => by cases h; cases e; cases r; exact ⟨[], Reads.none, by simp⟩
  | .bl b, _, _, _, e, h, r => by cases h; cases e; cases r; exact ⟨[], Reads.bool b, by simp⟩
  | .int i, _, _, _, e, h, r => by cases h; cases e; obtain ⟨t, rfl⟩ := r; exact ⟨[], Reads.int i t, by simp⟩
  | .str i, _, _, _, e, h, r => by cases h; cases e; obtain ⟨t, rfl⟩ := r; exact ⟨[], Reads.str i t, by simp⟩
  | .tup xs, d, v, u, e, h, r => by
    unfold toPyD at e
    cases q : toPyDs xs with
    | none => rw [q] at e; cases e
    | some ds =>
      rw [q] at e; cases e
      cases h with
      | tup ht hr =>
        cases r
        obtain ⟨its, rv, ⟨o, ho, hc, n, hd⟩, _⟩ := I.tuple ht.sq
        obtain ⟨as, h1, h2⟩ := rds_ok I b q hr rv
        exact ⟨as, Reads.tuple ho hc hd h1, h2⟩
  | .lst xs, d, v, u, e, h, r => by
    unfold toPyD at e
    cases q : toPyDs xs with
    | none => rw [q] at e; cases e
    | some ds =>
      rw [q] at e; cases e
      cases h with
      | lst n hh hr =>
        cases r
        obtain ⟨its, rv, ⟨o, n, ho, hc, _, hd⟩, _⟩ := I.list (.of hh)
        obtain ⟨as, h1, h2⟩ := rds_ok I b q hr rv
        exact ⟨_ :: as, Reads.list ho hc hd h1, fun z => (List.mem_cons.mp z).elim (notSys I b hh) h2⟩
  | .dk kvs, d, v, u, e, h, r => by
    unfold toPyD at e
    cases q : toPyDk kvs with
    | none => rw [q] at e; cases e
    | some ds =>
      rw [q] at e; cases e
      cases h with
      | dk n hh hr =>
        cases r
        obtain ⟨_, _, vs, rv, o, es, ep, ho, ⟨hc, _⟩, hd, _, hp, _⟩ := dk_of I.hok hh
        obtain ⟨as, bs, h1, h2, h3, h4⟩ := rdk_ok I b q hr rv hp
        exact ⟨_ :: as ++ bs, Reads.dict ho hc hd h1 h2, fun z => by
          rw [List.cons_append] at z
          exact (List.mem_cons.mp z).elim (notSys I b hh) fun z => (List.mem_append.mp z).elim h3 h4⟩
  | .bor _, _, _, _, _, h, _ => by cases h
  | .scr _, _, _, _, e, _, _ => by cases e
  | .dt _, _, _, _, e, _, _ => by cases e
  | .obj _, _, _, _, e, _, _ => by cases e
  | .glb _, _, _, _, e, _, _ => by cases e
  | .ty _, _, _, _, e, _, _ => by cases e
theorem rds_ok {pins : List (Addr × Obj)} {σ : L2.St} {s : Shared} (I : Inv X pins σ H s) (b : SysAt X) : ∀ {xs : List Vl} {ds : List PyData} {us : List V} {ws : List Value}, toPyDs xs = some ds → RVs X.K X.mg G H xs us → Vals us ws → ∃ as, ReadsAll s.heap ws ds as ∧ sysModules ∉ as
  | [], _, _, _, e, h, r => by cases h; cases e; cases r; exact ⟨[], ReadsAll.nil, by simp⟩
  | x :: xs, ds, us, ws, e, h, r => by
    cases h with
    | cons h1 h2 =>
      cases r with
      | cons r1 r2 =>
        unfold toPyDs at e
        split at e
        · rename_i d ds' e1 e2
          cases e
          obtain ⟨as, p1, p2⟩ := rd_ok I b e1 h1 r1
          obtain ⟨bs, q1, q2⟩ := rds_ok I b e2 h2 r2
          exact ⟨as ++ bs, ReadsAll.cons p1 q1, fun z => (List.mem_append.mp z).elim p2 q2⟩
        · cases e
theorem rdk_ok {pins : List (Addr × Obj)} {σ : L2.St} {s : Shared} (I : Inv X pins σ H s) (b : SysAt X) : ∀ {xs : List (Key × Vl)} {ds : List (PyData × PyData)} {us : List (Key × V)} {vs : List (Key × Value)} {es : List DictEntry},
    toPyDk xs = some ds → RVk X.K X.mg G H xs us → KV us vs → Pairs (mixKind X.prog X.w) es vs → ∃ as bs, ReadsAll s.heap (es.map (·.key)) (ds.map (·.1)) as ∧ ReadsAll s.heap (es.map (·.val)) (ds.map (·.2)) bs ∧ sysModules ∉ as ∧ sysModules ∉ bs
  | [], _, _, _, _, e, h, r, p => by cases h; cases e; cases r; cases p; exact ⟨[], [], ReadsAll.nil, ReadsAll.nil, by simp, by simp⟩
  | (k, x) :: xs, ds, us, vs, es, e, h, r, p => by
    cases h with
    | cons h1 h2 =>
      cases r with
      | cons r1 r2 =>
        rename_i kv' vs'
        obtain ⟨k', w'⟩ := kv'
        obtain ⟨ek, rw1⟩ := r1
        cases p with
        | cons p1 p2 p3 =>
          rename_i en es'
          unfold toPyDk at e
          split at e
          · rename_i d ds' e1 e2
            cases e
            simp only at ek p1 p2 rw1
            subst ek
            obtain ⟨as, q1, q2⟩ := rd_ok I b e1 h1 rw1
            obtain ⟨as', bs, t1, t2, t3, t4⟩ := rdk_ok I b e2 h2 r2 p3
            have hk : Reads s.heap en.key (keyPy k) [] := by
              rcases keyIs_shape p1 with ⟨i, t, e3, e4⟩ | ⟨i, t, e3, e4⟩
              · subst e3; rw [e4]; exact Reads.int i t
              · subst e3; rw [e4]; exact Reads.str i t
            refine ⟨[] ++ as', as ++ bs, ReadsAll.cons hk t1, ?_, t3, fun z => (List.mem_append.mp z).elim q2 t4⟩
            exact ReadsAll.cons (by show Reads s.heap en.val d as; rw [p2]; exact q1) t2
          · cases e
end
theorem rdS_ok {pins : List (Addr × Obj)} {σ : L2.St} {s : Shared} (I : Inv X pins σ H s) (b : SysAt X) {x : Vl} {d : PyData} {v : V} {u : Value} (e : toPyDS st x = some d) (hs : StR X.K X.mg G H st) (h : RB X.K X.mg G H x v) (r : RelV v u) :
    ∃ as, Reads s.heap u d as ∧ sysModules ∉ as := by
  have viaL : ∀ {xs : List Vl} {ds : List PyData}, toPyDs xs = some ds → asLst st x = some xs → ∃ as, Reads s.heap u (.list ds) as ∧ sysModules ∉ as := fun {xs ds} q e2 => by
    obtain ⟨a, us, rfl, hh, hr⟩ := asLst_ok e2 hs h
    cases r
    obtain ⟨its, rv, ⟨o, n, ho, hc, _, hd⟩, _⟩ := I.list (.of hh)
    obtain ⟨as, h1, h2⟩ := rds_ok I b q hr rv
    exact ⟨_ :: as, Reads.list ho hc hd h1, fun z => (List.mem_cons.mp z).elim (notSys I b hh) h2⟩
  have viaD : ∀ {xs : List (Key × Vl)} {ds : List (PyData × PyData)}, toPyDk xs = some ds → asDk st x = some xs → ∃ as, Reads s.heap u (.dict ds) as ∧ sysModules ∉ as := fun {xs ds} q e2 => by
    obtain ⟨a, us, rfl, hh, hr⟩ := asDk_ok e2 hs h
    cases r
    obtain ⟨_, _, vs, rv, o, es, ep, ho, ⟨hc, _⟩, hd, _, hp, _⟩ := dk_of I.hok hh
    obtain ⟨as, bs, h1, h2, h3, h4⟩ := rdk_ok I b q hr rv hp
    exact ⟨_ :: as ++ bs, Reads.dict ho hc hd h1 h2, fun z => by
      rw [List.cons_append] at z
      exact (List.mem_cons.mp z).elim (notSys I b hh) fun z => (List.mem_append.mp z).elim h3 h4⟩
  unfold toPyDS at e
  split at e
  · rename_i i
    split at e
    · rename_i xs hi
      cases q : toPyDs xs with
      | none => rw [q] at e; cases e
      | some ds => rw [q] at e; cases e; exact viaL q (by simp only [asLst, hi])
    · rename_i xs hi
      cases q : toPyDk xs with
      | none => rw [q] at e; cases e
      | some ds => rw [q] at e; cases e; exact viaD q (by simp only [asDk, hi])
    · cases e
  · by_cases nb : notBor x = true
    · exact rd_ok I b e (h.rv nb) r
    · cases x <;> first | exact absurd rfl nb | skip
      rename_i xs _
      unfold toPyD at e
      cases q : toPyDs xs with
      | none => rw [q] at e; cases e
      | some ds => rw [q] at e; cases e; exact viaL q rfl
end
end LG

set_option Elab.async false
set_option linter.all false
set_option maxRecDepth 100000
set_option maxHeartbeats 4000000
/-! G8: built-in functions and types, called; methods of texts; what makes new lists and dicts. -/
namespace LG
open PySem L2
def Bf.val : Bf → Value
  | .len => .builtin "len" | .abs => .builtin "abs" | .int => .type "int" | .str => .type "str" | .repr => .builtin "repr" | .all => .builtin "all" | .any => .builtin "any" | .tuple => .type "tuple"
  | .min2 => .builtin "min" | .max2 => .builtin "max" | .sum => .builtin "sum" | .min1 => .builtin "min" | .max1 => .builtin "max"
theorem Bf.boot (f : Bf) : bootBuiltins f.py = some f.val := by cases f <;> decide +kernel
def Ff.val : Ff → Value
  | .list => .type "list" | .sorted => .builtin "sorted" | .dict => .type "dict"
theorem Ff.boot (f : Ff) : bootBuiltins f.py = some f.val := by cases f <;> decide +kernel
/-- what stands around -/
structure Ar (X : Cx) : Prop where
  calm : X.calm = true
  gd : X.A.guards = some []
  un : X.A.units + 100 < cLine
  sm : SysAt X
section
variable {X : Cx} {G : Gh} {H : Hp} {st : Sto} {Q : VK}
def rBlt (K : PySem.W.Frag) (mg : Str → Option Value) (f : Bf) : List V → Hp → VK → Prop := fun vs H Q => ∃ G st xs z, bltM f st xs = some z ∧ StR K mg G H st ∧ RBs K mg G H xs vs ∧ Giv K mg G H st z Q
theorem rbs1 {K : PySem.W.Frag} {mg : Str → Option Value} {x : Vl} {vs : List V} (h : RBs K mg G H [x] vs) : ∃ v, vs = [v] ∧ RB K mg G H x v := by
  cases h with
  | cons r t => cases t; exact ⟨_, rfl, r⟩
theorem rbs2 {K : PySem.W.Frag} {mg : Str → Option Value} {x y : Vl} {vs : List V} (h : RBs K mg G H [x, y] vs) : ∃ v w, vs = [v, w] ∧ RB K mg G H x v ∧ RB K mg G H y w := by
  cases h with
  | cons r t =>
    cases t with
    | cons r2 t => cases t; exact ⟨_, _, rfl, r, r2⟩
theorem bools_ok {K : PySem.W.Frag} {mg : Str → Option Value} : ∀ {xs : List Vl} {bs : List Bool} {us : List V}, vBools xs = some bs → RVs K mg G H xs us → us = bs.map V.bl
  | [], _, _, e, h => by cases h; cases e; rfl
  | x :: xs, bs, us, e, h => by
    cases x <;> first | (cases e; done) | skip
    cases h with
    | cons r t =>
      unfold vBools at e
      cases q : vBools xs with
      | none => rw [q] at e; cases e
      | some b => rw [q] at e; cases e; cases r; rw [bools_ok q t]; rfl
theorem strs_ok {K : PySem.W.Frag} {mg : Str → Option Value} : ∀ {xs : List Vl} {bs : List Str} {us : List V}, vStrs xs = some bs → RVs K mg G H xs us → us = bs.map V.str
  | [], _, _, e, h => by cases h; cases e; rfl
  | x :: xs, bs, us, e, h => by
    cases x <;> first | (cases e; done) | skip
    cases h with
    | cons r t =>
      unfold vStrs at e
      cases q : vStrs xs with
      | none => rw [q] at e; cases e
      | some b => rw [q] at e; cases e; cases r; rw [strs_ok q t]; rfl
theorem strs_rv {K : PySem.W.Frag} {mg : Str → Option Value} : ∀ (bs : List Str), RVs K mg G H (bs.map Vl.str) (bs.map V.str)
  | [] => .nil
  | b :: bs => .cons (.str b) (strs_rv bs)
theorem seq_tuple {K : PySem.W.Frag} {mg : Str → Option Value} {xv : Vl} {xs : List Vl} {v : V} (e : asSeq st xv = some xs) (s : StR K mg G H st) (h : RB K mg G H xv v) :
    ∃ a us, v = .ref a ∧ RVs K mg G H xs us ∧ ((SqL K H a us) ∨ (SqT K H a us ∧ RV K mg G H (.tup xs) (.ref a))) := by
  unfold asSeq at e
  split at e
  · cases e
    obtain ⟨a, us, rfl, h, r⟩ := rb_tup h
    exact ⟨a, us, rfl, r, .inr ⟨h.sq, .tup h r⟩⟩
  · obtain ⟨a, us, rfl, h, r⟩ := asList_ok e s h
    exact ⟨a, us, rfl, r, .inl h⟩
theorem call_repr (A : Ar X) {pins : List (Addr × Obj)} {s : Shared} {σ : L2.St} {xv : Vl} {d : PyData} {v : V} {u : Value} (I : Inv X pins σ H s) (rx : RelV v u) (e : toPyDS st xv = some d) (h1 : d.showable = true) (h2 : d.depth ≤ 60) (h3 : d.shown.length ≤ sizeLine)
    (hs : StR X.K X.mg G H st) (hx : RB X.K X.mg G H xv v) (q : Q (.str d.shown) H) : wpAny (model X.prog X.w) X.A (call (.builtin "repr") [u]) (EP X pins σ Q) X.xe s := by
  obtain ⟨as, r, hsm⟩ := rdS_ok I A.sm e hs hx rx
  have un := A.un
  have go : ∀ a, u = .ref a → wpAny (model X.prog X.w) X.A (call (.builtin "repr") [u]) (EP X pins σ Q) X.xe s := fun a ea => by
    subst ea
    exact repr_of_reads' r h1 (fun _ => hsm) A.gd (by omega) (fun _ _ e => e) (fun h' t tk k => ⟨.str d.shown, H, I.kept k, ⟨t, rfl⟩, q⟩) h3
  cases r with
  | none => exact PySem.P.repr_of_none ⟨.str _, H, I.tok _, ⟨_, rfl⟩, q⟩
  | bool b => exact PySem.P.repr_of_bool ⟨.str _, H, I.tok _, ⟨_, rfl⟩, q⟩
  | int i t =>
    unfold PyData.showable at h1
    exact PySem.P.repr_of_int (of_decide_eq_true h1) ⟨.str _, H, I.tok _, ⟨_, rfl⟩, q⟩
  | str x t => exact PySem.P.repr_of_str ⟨.str _, H, I.tok _, ⟨_, rfl⟩, q⟩ h3
  | list => exact go _ rfl
  | tuple => exact go _ rfl
  | dict => exact go _ rfl
theorem blt_ok (A : Ar X) (f : Bf) : CallR X f.val (rBlt X.K X.mg f) := by
  intro pins s σ H vs us Q I r ⟨G, st, xs, z, e, hs, hx, g⟩
  unfold bltM at e
  split at e
  · -- len
    rename_i x
    obtain ⟨v, rfl, hv⟩ := rbs1 hx
    cases q : lenM st x with
    | none => rw [q] at e; cases e
    | some n =>
      rw [q] at e; cases e
      unfold lenM at q
      split at q
      · split at q
        · rename_i hz
          cases q; cases rb_str hv
          exact call_len_str pins s σ H _ us Q I r ⟨_, rfl, hz, giv_same g hs (.int _)⟩
        · cases q
      · split at q
        · rename_i ys q2
          cases q
          obtain ⟨a, ws, rfl, h1, r1⟩ := asSeq_ok q2 hs hv
          rw [r1.length] at g
          exact call_len_seq pins s σ H _ us Q I r ⟨a, ws, rfl, h1, giv_same g hs (.int _)⟩
        · split at q
          · rename_i kvs q2
            cases q
            obtain ⟨a, ws, rfl, h1, r1⟩ := asDk_ok q2 hs hv
            rw [r1.length] at g
            obtain ⟨u, rfl, rx⟩ := vals1 r
            cases rx
            exact d_len I (.inl h1) fun t s' I' => ⟨.int ws.length, H, I', ⟨t, rfl⟩, giv_same g hs (.int _)⟩
          · cases q
  · cases e
    obtain ⟨v, rfl, hv⟩ := rbs1 hx
    cases rb_int hv
    exact L2.call_abs pins s σ H _ us Q I r ⟨_, rfl, giv_same g hs (.int _)⟩
  · cases e
    obtain ⟨v, rfl, hv⟩ := rbs1 hx
    cases rb_int hv
    exact call_int1 pins s σ H _ us Q I r (.inl ⟨_, rfl, giv_same g hs (.int _)⟩)
  · cases e
    obtain ⟨v, rfl, hv⟩ := rbs1 hx
    cases rb_bl hv
    exact call_int1 pins s σ H _ us Q I r (.inr ⟨_, rfl, giv_same g hs (.int _)⟩)
  · split at e
    · rename_i hz
      cases e
      obtain ⟨v, rfl, hv⟩ := rbs1 hx
      cases rb_int hv
      exact call_str_int pins s σ H _ us Q I r ⟨_, rfl, hz, giv_same g hs (.str _)⟩
    · cases e
  · obtain ⟨v, rfl, hv⟩ := rbs1 hx
    split at e
    · rename_i ys q
      cases q2 : vBools ys with
      | none => rw [q2] at e; cases e
      | some bs =>
        rw [q2] at e; cases e
        obtain ⟨a, ws, rfl, h1, r1⟩ := asList_ok q hs hv
        cases bools_ok q2 r1
        exact cr_all A.calm pins s σ H _ us Q I r ⟨a, bs, rfl, h1, giv_same g hs (.bl _)⟩
    · cases e
  · obtain ⟨v, rfl, hv⟩ := rbs1 hx
    split at e
    · rename_i ys q
      cases q2 : vBools ys with
      | none => rw [q2] at e; cases e
      | some bs =>
        rw [q2] at e; cases e
        obtain ⟨a, ws, rfl, h1, r1⟩ := asList_ok q hs hv
        cases bools_ok q2 r1
        exact cr_any A.calm pins s σ H _ us Q I r ⟨a, bs, rfl, h1, giv_same g hs (.bl _)⟩
    · cases e
  · obtain ⟨v, rfl, hv⟩ := rbs1 hx
    rename_i x
    cases q : asSeq st x with
    | none => rw [q] at e; cases e
    | some ys =>
      rw [q] at e; cases e
      obtain ⟨a, ws, rfl, r1, h1⟩ := seq_tuple q hs hv
      refine call_tuple_of pins s σ H _ us Q I r ⟨a, ws, rfl, ?_⟩
      rcases h1 with h1 | ⟨h1, h2⟩
      · exact .inl ⟨h1, fun l hl => giv_new g hs hl r1⟩
      · exact .inr ⟨h1, giv_same g hs h2⟩
  · cases e
    obtain ⟨v, w, rfl, hv, hw⟩ := rbs2 hx
    cases rb_int hv; cases rb_int hw
    exact call_min2 A.calm pins s σ H _ us Q I r ⟨_, _, rfl, giv_same g hs (.int _)⟩
  · cases e
    obtain ⟨v, w, rfl, hv, hw⟩ := rbs2 hx
    cases rb_int hv; cases rb_int hw
    exact call_max2 A.calm pins s σ H _ us Q I r ⟨_, _, rfl, giv_same g hs (.int _)⟩
  · obtain ⟨v, rfl, hv⟩ := rbs1 hx
    split at e
    · rename_i d q
      split at e
      · rename_i hc
        simp only [Bool.and_eq_true, decide_eq_true_eq] at hc
        cases e
        obtain ⟨u, rfl, rx⟩ := vals1 r
        exact call_repr A I rx q hc.1.1 hc.1.2 hc.2 hs hv (giv_same g hs (.str _))
      · cases e
    · cases e
  · cases e

/-! ### methods of texts -/
def Tf.id : Tf → String
  | .join => "str.join" | .upper => "str.upper"
def rTxt (K : PySem.W.Frag) (mg : Str → Option Value) (f : Tf) : V → List V → Hp → VK → Prop := fun x vs H Q => ∃ G st xv xs z, txtM f st xv xs = some z ∧ StR K mg G H st ∧ RB K mg G H xv x ∧ RBs K mg G H xs vs ∧ Giv K mg G H st z Q
theorem txt_ok (f : Tf) : MtR X f.id (rTxt X.K X.mg f) := by
  intro pins s σ H x vs v us Q I rx rv ⟨G, st, xv, xs, z, e, hs, hx, hvs, g⟩
  unfold txtM at e
  split at e
  · obtain ⟨w, rfl, hv⟩ := rbs1 hvs
    cases rb_str hx
    split at e
    · rename_i ys q
      split at e
      · rename_i zs q2
        split at e
        · rename_i hz
          cases e
          obtain ⟨a, ws, rfl, h1, r1⟩ := asSeq_ok q hs hv
          cases strs_ok q2 r1
          exact mt_join pins s σ H _ _ v us Q I rx rv ⟨_, a, zs, rfl, rfl, h1, hz, giv_same g hs (.str _)⟩
        · cases e
      · cases e
    · cases e
  · split at e
    · rename_i hz
      cases e
      cases hvs
      cases rb_str hx
      exact mt_upper pins s σ H _ _ v us Q I rx rv ⟨_, rfl, rfl, hz, giv_same g hs (.str _)⟩
    · cases e
  · cases e
theorem Tf.slot (f : Tf) : Slot "str" f.py f.id := by cases f <;> first | exact PySem.F.slot_str_join | exact PySem.F.slot_str_upper
theorem Tf.ty (f : Tf) : typeOf (.builtin f.id) = pure (.type "method_descriptor") := by cases f <;> first | exact PySem.F.type_str_join | exact PySem.F.type_str_upper

/-! ### texts sorted -/
theorem str_total (a b : Str) : a.cps.toList < b.cps.toList ∨ a = b ∨ b.cps.toList < a.cps.toList := by
  rcases Nat.lt_trichotomy 0 0 with h | h | h
  · omega
  · by_cases h1 : a.cps.toList < b.cps.toList
    · exact .inl h1
    · by_cases h2 : b.cps.toList < a.cps.toList
      · exact .inr (.inr h2)
      · refine .inr (.inl ?_)
        have := List.le_antisymm (List.not_lt.mp h2) (List.not_lt.mp h1)
        exact Str.ext' (Array.toList_inj.mp this)
  · omega
end
end LG

set_option Elab.async false
set_option linter.all false
set_option maxRecDepth 100000
set_option maxHeartbeats 4000000
/-! G8r: t[::-1] of lists, tuples, texts. -/
namespace LG
open PySem L2 PySem.Spec PyProof.Rows
section
variable {X : Cx} {G : Gh} {H : Hp} {st : Sto} {Q : VK}
theorem str_back (z : Str) (t : Tok) (k : Tok) : PySem.sliceMade z t none none (some (-1, k)) = .str ⟨z.cps.toList.reverse.toArray⟩ := by
  have e : PySem.slicePicked z none none (some (-1, k)) = (List.range z.cps.size).reverse := by
    show sliceRange ((z.cps.size : Int) - 1) (-1) (-1) = _
    rw [PySem.W.krv_sliceRange, PySem.W.krv_range]
  unfold PySem.sliceMade
  rw [if_neg (fun h => by
    rw [Bool.and_eq_true] at h
    have h1 := h.1
    have h2 : ((-1 : Int) == 1) = true := h1
    exact absurd h2 (by decide)), e, List.filterMap_reverse, PySem.W.krv_all]
theorem tup_back {prog : Program} {w : World} {A : Around} {E : Value → Shared → Prop} {s : Shared} {t sl : Addr} {its : List Value} {vs : Value} {P : Value → Shared → Prop} (ht : IsTup s.heap t its.toArray)
    (hs : s.heap.IsSliceOf sl .none .none vs) (ps : IsPart vs (some (-1))) (hz : its.length ≤ sizeLine)
    (q : P (.ref s.heap.objs.size) { s with heap := s.heap.push { cls := .type "tuple", data := .seq its.reverse.toArray } }) : wpAny (model prog w) A (getItem (.ref t) (.ref sl)) P E s := by
  have big : sizeOk (.seq its.reverse.toArray) := by
    show its.reverse.toArray.size ≤ sizeLine
    rw [List.size_toArray, List.length_reverse]; exact hz
  obtain ⟨o, ho, hc, hd⟩ := id hs
  have ty : s.TypeIs (.ref sl) "slice" := ⟨o, ho, hc⟩
  unfold getItem; try with_reducible refine wpAny_holding ?_
  first | skip; refine wpAny_bind (wpAny_pure ?_) | skip
  refine PySem.wpAny_bind (PySem.wpAny_sequenceKey ht.typeIs (by decide) ?_)
  have sg := PyProof.Rows.slot_tuple_getitem
  refine wpAny_bind (wpAny_callSpecial?_slot (name := Str.ofString "__getitem__") ht.typeIs sg (wpAny_call_entry sg ht.typeIs entry_tuple_getitem ?_ (args_tuple_getitem _ _)))
  show wpAny _ _ (Builtin.Tuple.tupleItemsOf (.ref t) >>= _) _ _ s; refine PySem.wpAny_bind (tupleItemsOf_ ht (wpAny_bind (wpAny_typeOf ty ?_)))
  rw [if_pos (by decide)]
  have ap : ∀ {R : Int × Int × Nat → Shared → Prop}, R ((its.length : Int) - 1, -1, its.length) s → wpAny (model prog w) A.in1 (Builtin.Slice.sliceApplied (.ref sl) (pure (its.toArray.size : Int))) R E s := fun {R} r => by
    unfold Builtin.Slice.sliceApplied Builtin.Slice.sliceFields
    refine wpAny_bind (wpAny_bind (wpAny_field ho hd (x := .none) rfl (wpAny_bind (wpAny_field ho hd (x := .none) rfl (wpAny_bind (wpAny_field ho hd (x := vs) rfl (wpAny_pure ?_)))))))
    refine wpAny_bind (HT.slicePart_ ps ?_)
    show wpAny _ _ (if ((-1 : Int) == 0) = true then _ else _) _ _ s
    rw [if_neg (by decide)]
    refine wpAny_bind (HT.slicePart_ .none (wpAny_bind (HT.slicePart_ .none (wpAny_bind (wpAny_pure ?_)))))
    refine wpAny_pure ?_
    show R (((its.toArray.size : Int) - 1), -1, Builtin.Slice.slicePlaces ((its.toArray.size : Int) - 1) (-1) (-1)) s
    have e : Builtin.Slice.slicePlaces ((its.toArray.size : Int) - 1) (-1) (-1) = its.length := by
      unfold Builtin.Slice.slicePlaces
      rw [List.size_toArray, if_neg (by decide)]
      by_cases h : (its.length : Int) - 1 > -1
      · rw [if_pos h]
        have : ((its.length : Int) - 1 - -1 - 1) / (- -1) = (its.length : Int) - 1 := by
          rw [show (- -1 : Int) = 1 by decide, Int.ediv_one]; omega
        rw [this]; omega
      · rw [if_neg h]; omega
    rw [e, List.size_toArray]
    exact r
  refine wpAny_bind (ap ?_)
  show wpAny _ _ (if ((its.length : Int) - 1 == 0 && (-1 : Int) == 1 && its.length == its.toArray.size) = true then _ else _) _ _ s
  rw [if_neg (fun z => by
    rw [Bool.and_eq_true, Bool.and_eq_true] at z
    exact absurd z.1.2 (by decide))]
  have pk : ((List.range its.length).filterMap fun (k : Nat) => its.toArray[((its.length : Int) - 1 + (k : Int) * (-1)).toNat]?).toArray = its.reverse.toArray := by
    congr 1
    have f : (fun (k : Nat) => its.toArray[((its.length : Int) - 1 + (k : Int) * (-1)).toNat]?) = (fun (k : Nat) => its.toArray[((its.length : Int) - 1 - (k : Int)).toNat]?) := by
      funext k
      congr 2
      omega
    rw [f]
    have g : (List.range its.length).filterMap (fun (k : Nat) => its.toArray[((its.length : Int) - 1 - (k : Int)).toNat]?) = ((List.range its.length).map fun k => its.length - 1 - k).filterMap (its.toArray[·]?) := by
      rw [List.filterMap_map]
      have cg : ∀ (l : List Nat), (∀ k ∈ l, k < its.length) → l.filterMap (fun (k : Nat) => its.toArray[((its.length : Int) - 1 - (k : Int)).toNat]?) = l.filterMap ((its.toArray[·]?) ∘ fun k => its.length - 1 - k) := by
        intro l
        induction l with
        | nil => intro _; rfl
        | cons k l ih =>
          intro hl
          have hk := hl k List.mem_cons_self
          have e1 : ((its.length : Int) - 1 - (k : Int)).toNat = its.length - 1 - k := by omega
          rw [List.filterMap_cons, List.filterMap_cons, ih fun j hj => hl j (List.mem_cons_of_mem _ hj), e1]
          rfl
      exact cg _ fun k hk => List.mem_range.mp hk
    rw [g, PySem.W.krv_range, List.filterMap_reverse]
    have := PySem.W.krv_all its.toArray
    rw [List.size_toArray] at this
    rw [this]
  rw [pk]
  first
    | exact wpAny_bind (m := Builtin.Tuple.tupleExact _) (wpAny_newObj_type (wpAny_pure ⟨_, rfl, wpAny_pure q⟩) big)
    | exact wpAny_bind (m := Builtin.Tuple.tupleExact _) (wpAny_newObj_type (wpAny_bind (wpAny_pure (wpAny_pure ⟨_, rfl, wpAny_pure q⟩))) big)
    | exact wpAny_bind (wpAny_bind (m := Builtin.Tuple.tupleExact _) (wpAny_newObj_type (wpAny_pure (wpAny_pure ⟨_, rfl, wpAny_pure q⟩)) big))
    | exact wpAny_bind (wpAny_bind (m := Builtin.Tuple.tupleExact _) (wpAny_newObj_type (wpAny_pure ⟨_, rfl, wpAny_pure q⟩) big))
def rRev (K : PySem.W.Frag) (mg : Str → Option Value) : V → Hp → VK → Prop := fun x H Q => ∃ G st xv z, revM st xv = some z ∧ StR K mg G H st ∧ RB K mg G H xv x ∧ Giv K mg G H st z Q
theorem pe_rev {e : Expr} {te : TE} {k : Nat} {p1 p2 p3 pos : Pos} (he : PE X e te) :
    PE X (.Subscript e (.Slice none none (some (.UnaryOp .USub (.Constant (.int 1) k p1) p2)) p3) pos) (fun σ H Q => te σ H fun x H1 => rRev X.K X.mg x H1 Q) := by
  refine ⟨fun pins s σ H Q I h => ?_⟩
  refine Subscript_ (thn (he.run pins s σ H _ I h) fun v s1 ⟨x, H1, I1, r1, q1⟩ => ?_)
  obtain ⟨G, st, xv, z, e1, hs, hx, g⟩ := q1
  have hst : PO X (some (.UnaryOp .USub (.Constant (.int 1) k p1) p2)) (tPart (tUn (rU fun i => .int (-i)) (tC (.int 1)))) := po_some (pe_un un_neg pe_int)
  refine wpAny_Slice (thn (po_none.run pins s1 σ H1 (fun o H2 => o = none ∧ H2 = H1) I1 ⟨rfl, rfl⟩) fun vl s2 ⟨l, H2, I2, pl, el, e2⟩ => ?_)
  subst el e2
  refine thn (po_none.run pins s2 σ H2 (fun o H3 => o = none ∧ H3 = H2) I2 ⟨rfl, rfl⟩) fun vu s3 ⟨u, H3, I3, pu, eu, e3⟩ => ?_
  subst eu e3
  refine thn (hst.run pins s3 σ H3 (fun o H4 => o = some (-1) ∧ H4 = H3) I3 ⟨1, rfl, -1, rfl, rfl, rfl⟩) fun vs s4 ⟨o, H4, I4, ps, eo, e4⟩ => ?_
  subst eo e4
  have I5 : Inv X pins σ H4 { s4 with heap := s4.heap.push { cls := .type "slice", data := .fields #[vl, vu, vs] } } := I4.kept (t' := s4.toks) fun b ob q => Heap.get?_push_of_some _ q
  cases pl
  cases pu
  have hfr : H4 ((s4.heap.push { cls := .type "slice", data := .fields #[.none, .none, vs] }).objs.size) = none := I5.hok.fresh (Nat.le_refl _)
  unfold revM at e1
  split at e1
  · cases e1
    obtain ⟨a, us, rfl, h1, r2⟩ := rb_tup hx
    cases r1
    obtain ⟨its, r, ht, hz⟩ := I5.tuple h1.sq
    have hlen := r.length
    refine tail_any (ops := [.ref a, .ref s4.heap.objs.size]) ht.typeIs (PyProof.Rows.slot_tuple_getitem.lookup) ?_ (by with_unfolding_all rfl)
    refine tup_back ht (Heap.IsSliceOf.new _ .none .none vs) ps (by omega) ?_
    refine ⟨.ref _, _, I5.laid (t' := s4.toks) (o := .tup us.reverse) (fun b ob q => Heap.get?_push_of_some _ q) (Nat.le_refl _) ?_, rfl, giv_new g hs hfr r2.reverse⟩
    exact ⟨by rw [List.length_reverse]; exact hz, _, r.reverse, IsTup.new _ _⟩
  · split at e1
    · rename_i z0 hz
      cases e1
      cases rb_str hx
      obtain ⟨t, rfl⟩ := r1
      cases ps with
      | int i tk =>
        refine tail_any (ops := [.str z0 t, .ref s4.heap.objs.size]) (typeIs_str _ _ _) (F.slot_str_getitem.lookup) ?_ (by with_unfolding_all rfl)
        refine wpAny_getItem_str_slice (l := none) (u := none) (st := some (-1, tk)) ⟨_, Heap.get?_push_size _ rfl, rfl, rfl⟩ rfl ?_
        rw [str_back]
        refine ⟨?_, .str _, H4, I5.tok _, ⟨_, rfl⟩, giv_same g hs (.str _)⟩
        show (z0.cps.toList.reverse.toArray).size ≤ sizeLine
        rw [List.size_toArray, List.length_reverse, Array.length_toList]
        exact hz
    · cases e1
  · rename_i n1 n2
    cases q2 : asList st xv with
    | none => rw [q2] at e1; cases e1
    | some ys =>
      rw [q2] at e1; cases e1
      obtain ⟨a, us, rfl, h1, r2⟩ := asList_ok q2 hs hx
      cases r1
      obtain ⟨its, r, ht, hz⟩ := I5.list h1
      have hlen := r.length
      refine tail_any (ops := [.ref a, .ref s4.heap.objs.size]) ht.isList.typeIs (PySem.slot_list_getitem.lookup) ?_ (by with_unfolding_all rfl)
      refine wpAny_getItem_list_slice ht.isList (Heap.IsSliceOf.new _ .none .none vs) .none .none ps (by decide) ?_ (by rw [List.size_toArray]; omega)
      rw [PySem.W.krv_pick]
      refine ⟨.ref _, _, I5.laid (t' := s4.toks) (o := .lst us.reverse) (fun b ob q => Heap.get?_push_of_some _ q) (Nat.le_refl _) ?_, rfl, giv_lst g hs hfr r2.reverse⟩
      exact ⟨by rw [List.length_reverse]; exact hz, _, 0, r.reverse, Heap.get?_push_size _ rfl⟩
end
end LG

set_option Elab.async false
set_option linter.all false
set_option maxRecDepth 100000
set_option maxHeartbeats 4000000
/-! G8s: what makes new lists and dicts of a value. -/
namespace LG
open PySem L2 PySem.Spec PyProof.Rows
theorem ltc (a b : Str) : ltCps a.cps.toList b.cps.toList = decide (a.cps.toList < b.cps.toList) := ltCps_eq _ _
def leS (a b : Str) : Prop := ¬ b.cps.toList < a.cps.toList
theorem leS_anti {a b : Str} (h1 : leS a b) (h2 : leS b a) : a = b := by
  rcases str_total a b with h | h | h
  · exact absurd h h2
  · exact h
  · exact absurd h h1
theorem leS_trans {a b c : Str} (h1 : leS a b) (h2 : leS b c) : leS a c := by
  intro h
  rcases str_total a b with k | k | k
  · exact h2 (List.lt_trans h k)
  · subst k; exact h2 h
  · exact h1 k
theorem rising_pw : ∀ {l : List Str} {p : Str}, risingS p l = true → (p :: l).Pairwise leS
  | [], _, _ => List.pairwise_singleton _ _
  | x :: l, p, h => by
    unfold risingS at h
    rw [Bool.and_eq_true, Bool.not_eq_true', ltc, decide_eq_false_iff_not] at h
    have ih := rising_pw h.2
    rw [List.pairwise_cons]
    refine ⟨fun y hy => ?_, ih⟩
    rcases List.mem_cons.mp hy with rfl | hy
    · exact h.1
    · exact leS_trans h.1 ((List.pairwise_cons.mp ih).1 y hy)
theorem sortedS_pw {l : List Str} (h : sortedS l = true) : l.Pairwise leS := by
  cases l with
  | nil => exact .nil
  | cons x l => exact rising_pw h
theorem insStr_perm (x : Str) : ∀ l, (insStr x l).Perm (x :: l)
  | [] => .refl _
  | y :: l => by
    unfold insStr
    split
    · exact .refl _
    · exact (List.Perm.cons y (insStr_perm x l)).trans (List.Perm.swap x y l)
theorem sortStr_perm : ∀ l, (sortStr l).Perm l
  | [] => .refl _
  | x :: l => (insStr_perm x (sortStr l)).trans ((sortStr_perm l).cons x)
theorem insStr_pw (x : Str) : ∀ {l : List Str}, l.Pairwise leS → (insStr x l).Pairwise leS
  | [], _ => List.pairwise_singleton _ _
  | y :: l, h => by
    unfold insStr
    have h' := List.pairwise_cons.mp h
    split
    · rename_i k
      refine List.pairwise_cons.mpr ⟨fun z hz => ?_, h⟩
      have xy : leS x y := fun q => absurd (List.lt_trans q k) (List.lt_irrefl _)
      rcases List.mem_cons.mp hz with rfl | hz
      · exact xy
      · exact leS_trans xy (h'.1 z hz)
    · rename_i k
      refine List.pairwise_cons.mpr ⟨fun z hz => ?_, insStr_pw x h'.2⟩
      rcases List.mem_cons.mp ((insStr_perm x l).mem_iff.mp hz) with rfl | hz
      · exact k
      · exact h'.1 z hz
theorem sortStr_pw : ∀ l, (sortStr l).Pairwise leS
  | [] => .nil
  | x :: l => insStr_pw x (sortStr_pw l)
theorem sortStr_uniq {ys l : List Str} (p : ys.Perm l) (h : sortedS ys = true) : ys = sortStr l :=
  List.Perm.eq_of_pairwise (fun a b _ _ => leS_anti) (sortedS_pw h) (sortStr_pw l) (p.trans (sortStr_perm l).symm)
theorem insInt_perm (x : Int) : ∀ l, (insInt x l).Perm (x :: l)
  | [] => .refl _
  | y :: l => by
    unfold insInt
    split
    · exact .refl _
    · exact (List.Perm.cons y (insInt_perm x l)).trans (List.Perm.swap x y l)
theorem sortInt_perm : ∀ l, (sortInt l).Perm l
  | [] => .refl _
  | x :: l => (insInt_perm x (sortInt l)).trans ((sortInt_perm l).cons x)
theorem insInt_pw (x : Int) : ∀ {l : List Int}, l.Pairwise (· ≤ ·) → (insInt x l).Pairwise (· ≤ ·)
  | [], _ => List.pairwise_singleton _ _
  | y :: l, h => by
    unfold insInt
    have h' := List.pairwise_cons.mp h
    split
    · rename_i k
      refine List.pairwise_cons.mpr ⟨fun z hz => ?_, h⟩
      rcases List.mem_cons.mp hz with rfl | hz
      · exact k
      · exact Int.le_trans k (h'.1 z hz)
    · rename_i k
      refine List.pairwise_cons.mpr ⟨fun z hz => ?_, insInt_pw x h'.2⟩
      rcases List.mem_cons.mp ((insInt_perm x l).mem_iff.mp hz) with rfl | hz
      · omega
      · exact h'.1 z hz
theorem sortInt_pw : ∀ l, (sortInt l).Pairwise (· ≤ ·)
  | [] => .nil
  | x :: l => insInt_pw x (sortInt_pw l)
theorem sortInt_uniq {ys l : List Int} (p : ys.Perm l) (h : ys.Pairwise (· ≤ ·)) : ys = sortInt l :=
  List.Perm.eq_of_pairwise (fun a b _ _ => Int.le_antisymm) h (sortInt_pw l) (p.trans (sortInt_perm l).symm)
section
variable {X : Cx} {G : Gh} {H : Hp} {st : Sto} {Q : VK}
theorem nums_ok {K : PySem.W.Frag} {mg : Str → Option Value} : ∀ {xs : List Vl} {bs : List Int} {us : List V}, vInts xs = some bs → RVs K mg G H xs us → us = bs.map V.int
  | [], _, _, e, h => by cases h; cases e; rfl
  | x :: xs, bs, us, e, h => by
    cases x <;> first | (cases e; done) | skip
    cases h with
    | cons r t =>
      unfold vInts at e
      cases q : vInts xs with
      | none => rw [q] at e; cases e
      | some b => rw [q] at e; cases e; cases r; rw [nums_ok q t]; rfl
theorem nums_rv {K : PySem.W.Frag} {mg : Str → Option Value} : ∀ (bs : List Int), RVs K mg G H (bs.map Vl.int) (bs.map V.int)
  | [] => .nil
  | b :: bs => .cons (.int b) (nums_rv bs)
theorem keys_rv {K : PySem.W.Frag} {mg : Str → Option Value} : ∀ {kvs : List (Key × Vl)} {us : List (Key × V)}, RVk K mg G H kvs us → RVs K mg G H (kvs.map fun kv => ofKey kv.1) (us.map fun kv => kV kv.1)
  | _, _, .nil => .nil
  | _, _, @RVk.cons _ _ _ _ k x xs u us r t => .cons (by cases k with | inl i => exact .int i | inr z => exact .str z) (keys_rv t)
theorem keys_strs {K : PySem.W.Frag} {mg : Str → Option Value} : ∀ {kvs : List (Key × Vl)} {us : List (Key × V)} {zs : List Str}, vStrs (kvs.map fun kv => ofKey kv.1) = some zs → RVk K mg G H kvs us → us.map (·.1) = zs.map Sum.inr
  | [], _, _, e, h => by cases h; cases e; rfl
  | (k, x) :: xs, vs, zs, e, h => by
    obtain ⟨us, u, ev, r, t⟩ : ∃ us' u, vs = (k, u) :: us' ∧ RV K mg G H x u ∧ RVk K mg G H xs us' := by cases h with | cons r t => exact ⟨_, _, rfl, r, t⟩
    subst ev
    cases k with
    | inl i => cases e
    | inr z =>
      rw [List.map_cons] at e
      unfold ofKey vStrs at e
      cases q : vStrs (xs.map fun kv => ofKey kv.1) with
      | none => unfold ofKey at q; rw [q] at e; cases e
      | some b => 
        have q' := q
        unfold ofKey at q
        rw [q] at e; cases e
        rw [List.map_cons, List.map_cons, keys_strs q' t]
theorem keys_nums {K : PySem.W.Frag} {mg : Str → Option Value} : ∀ {kvs : List (Key × Vl)} {us : List (Key × V)} {zs : List Int}, vInts (kvs.map fun kv => ofKey kv.1) = some zs → RVk K mg G H kvs us → us.map (·.1) = zs.map Sum.inl
  | [], _, _, e, h => by cases h; cases e; rfl
  | (k, x) :: xs, vs, zs, e, h => by
    obtain ⟨us, u, ev, r, t⟩ : ∃ us' u, vs = (k, u) :: us' ∧ RV K mg G H x u ∧ RVk K mg G H xs us' := by cases h with | cons r t => exact ⟨_, _, rfl, r, t⟩
    subst ev
    cases k with
    | inr i => cases e
    | inl z =>
      rw [List.map_cons] at e
      unfold ofKey vInts at e
      cases q : vInts (xs.map fun kv => ofKey kv.1) with
      | none => unfold ofKey at q; rw [q] at e; cases e
      | some b => 
        have q' := q
        unfold ofKey at q
        rw [q] at e; cases e
        rw [List.map_cons, List.map_cons, keys_nums q' t]
def GivF (K : PySem.W.Frag) (mg : Str → Option Value) (G : Gh) (H : Hp) (st : Sto) (o : Ob) (Q : VK) : Prop := ∀ v G' H', Ext G H G' H' → StR K mg G' H' st → FR K mg H G' H' o v → Q v H'
theorem givF_lst {p : Addr} {xs : List Vl} {us : List V} (g : GivF X.K X.mg G H st (.lst xs) Q) (s : StR X.K X.mg G H st) (hp : H p = none) (r : RVs X.K X.mg G H xs us) : Q (.ref p) (upd H p (.lst us)) :=
  g _ _ _ (ext_more hp) (s.more hp) (fr_lst s hp r)
theorem givF_dk {p : Addr} {xs : List (Key × Vl)} {us : List (Key × V)} (g : GivF X.K X.mg G H st (.dk xs) Q) (s : StR X.K X.mg G H st) (hp : H p = none) (r : RVk X.K X.mg G H xs us) : Q (.ref p) (upd H p (.dK us)) :=
  g _ _ _ (ext_more hp) (s.more hp) (fr_dk s hp r)
def rFrm (K : PySem.W.Frag) (mg : Str → Option Value) (f : Ff) : List V → Hp → VK → Prop := fun vs H Q => ∃ G st xv v o, vs = [v] ∧ frM f st xv = some o ∧ StR K mg G H st ∧ RB K mg G H xv v ∧ GivF K mg G H st o Q
theorem strs_len : ∀ {xs : List Vl} {zs : List Str}, vStrs xs = some zs → zs.length = xs.length
  | [], _, e => by cases e; rfl
  | x :: xs, zs, e => by
    cases x <;> first | (cases e; done) | skip
    unfold vStrs at e
    cases q : vStrs xs with
    | none => rw [q] at e; cases e
    | some b => rw [q] at e; cases e; rw [List.length_cons, List.length_cons, strs_len q]
theorem nums_len : ∀ {xs : List Vl} {zs : List Int}, vInts xs = some zs → zs.length = xs.length
  | [], _, e => by cases e; rfl
  | x :: xs, zs, e => by
    cases x <;> first | (cases e; done) | skip
    unfold vInts at e
    cases q : vInts xs with
    | none => rw [q] at e; cases e
    | some b => rw [q] at e; cases e; rw [List.length_cons, List.length_cons, nums_len q]
theorem srt_cases {xs ys : List Vl} (e : srtM xs = some ys) : xs.length < 64 ∧ ((∃ zs, vStrs xs = some zs ∧ ys = (sortStr zs).map .str) ∨ ∃ zs, vInts xs = some zs ∧ ys = (sortInt zs).map .int) := by
  unfold srtM at e
  split at e
  · rename_i h
    refine ⟨h, ?_⟩
    split at e
    · rename_i zs q
      cases e
      exact .inl ⟨zs, q, rfl⟩
    · split at e
      · rename_i zs q
        cases e
        exact .inr ⟨zs, q, rfl⟩
      · cases e
  · cases e
theorem frm_ok (A : Ar X) (f : Ff) : CallR X f.val (rFrm X.K X.mg f) := by
  intro pins s σ H vs us Q I r ⟨G, st, xv, v, o, ev, e, hs, hx, g⟩
  subst ev
  unfold frM at e
  split at e
  · split at e
    · rename_i xs q
      cases e
      obtain ⟨a, ws, rfl, h1, r1⟩ := asSeq_ok q hs hx
      exact call_list_of pins s σ H _ us Q I r ⟨a, ws, rfl, h1, fun l hl => givF_lst g hs hl r1⟩
    · split at e
      · rename_i kvs q
        cases e
        obtain ⟨a, ws, rfl, h1, r1⟩ := asDk_ok q hs hx
        exact call_list_dK A.calm pins s σ H _ us Q I r ⟨a, ws, rfl, h1, fun l hl => givF_lst g hs hl (keys_rv r1)⟩
      · cases e
  · split at e
    · rename_i xs q
      cases q2 : srtM xs with
      | none => rw [q2] at e; cases e
      | some ys =>
        rw [q2] at e; cases e
        obtain ⟨a, ws, rfl, h1, r1⟩ := asList_ok q hs hx
        obtain ⟨h64, ⟨zs, q3, rfl⟩ | ⟨zs, q3, rfl⟩⟩ := srt_cases q2
        · cases strs_ok q3 r1
          exact cr_sortedS pins s σ H _ us Q I r ⟨a, zs, rfl, h1, by rw [strs_len q3]; exact h64, fun ys p hp hs1 hf => by
            rw [sortStr_uniq hp hs1]; exact givF_lst g hs hf (strs_rv _)⟩
        · cases nums_ok q3 r1
          exact cr_sorted pins s σ H _ us Q I r ⟨a, zs, rfl, h1, by rw [nums_len q3]; exact h64, fun ys p hp hs1 hf => by
            rw [sortInt_uniq hp hs1]; exact givF_lst g hs hf (nums_rv _)⟩
    · split at e
      · rename_i kvs q
        cases q2 : srtM (kvs.map fun kv => ofKey kv.1) with
        | none => rw [q2] at e; cases e
        | some ys =>
          rw [q2] at e; cases e
          obtain ⟨a, ws, rfl, h1, r1⟩ := asDk_ok q hs hx
          obtain ⟨h64, ⟨zs, q3, rfl⟩ | ⟨zs, q3, rfl⟩⟩ := srt_cases q2
          · exact call_sortedD A.calm pins s σ H _ us Q I r ⟨a, ws, zs, rfl, .inl h1, keys_strs q3 r1, by rw [strs_len q3]; exact h64, fun ys p hp hs1 hf => by
              rw [sortStr_uniq hp hs1]; exact givF_lst g hs hf (strs_rv _)⟩
          · exact call_sortedDI A.calm pins s σ H _ us Q I r ⟨a, ws, zs, rfl, .inl h1, keys_nums q3 r1, by rw [nums_len q3]; exact h64, fun ys p hp hs1 hf => by
              rw [sortInt_uniq hp hs1]; exact givF_lst g hs hf (nums_rv _)⟩
      · cases e
  · cases q : asDk st xv with
    | none => rw [q] at e; cases e
    | some kvs =>
      rw [q] at e; cases e
      obtain ⟨a, ws, rfl, h1, r1⟩ := asDk_ok q hs hx
      exact call_dictD pins s σ H _ us Q I r ⟨a, ws, rfl, .inl h1, fun p hp => givF_dk g hs hp r1⟩
end
end LG

set_option Elab.async false
set_option linter.all false
set_option maxRecDepth 100000
set_option maxHeartbeats 4000000
/-! G8c: tuples compared item by item, as far as both go. -/
namespace LG
open PySem L2 PySem.Spec PyProof.Rows
section
variable {X : Cx} {G : Gh} {H : Hp} {st : Sto} {Q : VK}
theorem range_all : ∀ (l : List Bool), (List.range l.length).all (fun j => l[j]?.getD true) = l.all id
  | [] => rfl
  | b :: l => by
    rw [List.length_cons, List.range_succ_eq_map, List.all_cons, List.all_map, List.all_cons]
    have e : ((fun j => (b :: l)[j]?.getD true) ∘ Nat.succ) = fun j => l[j]?.getD true := by
      funext j
      simp
    rw [e, range_all l]
    rfl
theorem eqTl_len : ∀ {xs ys : List Vl} {l : List Bool}, eqTl xs ys = some l → l.length = min xs.length ys.length
  | [], ys, l, e => by cases e; simp
  | _ :: _, [], l, e => by cases e; simp
  | x :: xs, y :: ys, l, e => by
    unfold eqTl at e
    split at e
    · rename_i d1 d2 bs e1 e2 e3
      split at e
      · cases e
        rw [List.length_cons, eqTl_len e3, List.length_cons, List.length_cons]
        omega
      · cases e
    · cases e
theorem eqTl_at {pins : List (Addr × Obj)} {σ : L2.St} {s : Shared} (I : Inv X pins σ H s) (hu : X.A.units + 65 < cLine) : ∀ {xs ys : List Vl} {l : List Bool} {us ws : List V} {is js : List Value}, eqTl xs ys = some l → RVs X.K X.mg G H xs us → RVs X.K X.mg G H ys ws → Vals us is → Vals ws js →
    ∀ (j : Nat) (u w : Value), is[j]? = some u → js[j]? = some w → SeqAt.EqAt X.A.in1 s u w ((l[(j : Nat)]?).getD true)
  | [], _, _, _, _, _, _, e, r, _, v, _, j, u, w, hu1, _ => by cases r; cases v; simp at hu1
  | _ :: _, [], _, _, _, _, _, e, _, r, _, v, j, u, w, _, hw1 => by cases r; cases v; simp at hw1
  | x :: xs, y :: ys, l, us, ws, is, js, e, r1, r2, v1, v2, j, u, w, hu1, hw1 => by
    unfold eqTl at e
    split at e
    · rename_i d1 d2 bs e1 e2 e3
      split at e
      · rename_i hc
        cases e
        rw [Bool.and_eq_true] at hc
        cases r1 with
        | cons a1 t1 =>
          cases r2 with
          | cons a2 t2 =>
            cases v1 with
            | cons b1 s1 =>
              cases v2 with
              | cons b2 s2 =>
                cases j with
                | zero =>
                  simp at hu1 hw1
                  subst hu1 hw1
                  obtain ⟨as, k1⟩ := Dp.reads I d1 _ _ (toPy_ok e1 a1) b1
                  obtain ⟨bs', k2⟩ := Dp.reads I d2 _ _ (toPy_ok e2 a2) b2
                  exact SeqAt.eqAt_reads d1 d2 _ s _ _ as bs' k1 k2 (SeqAt.canLay_of_shaped hc.1) (SeqAt.canLay_of_shaped hc.2) (SeqAt.room_of_shaped hc.1 (by have e9 : X.A.in1.units = X.A.units + 1 := rfl; omega))
                | succ j => exact eqTl_at I hu e3 t1 t2 s1 s2 j u w (by simpa using hu1) (by simpa using hw1)
      · cases e
    · cases e
theorem tup_cmp {pins : List (Addr × Obj)} {σ : L2.St} {s : Shared} (I : Inv X pins σ H s) (hu : X.A.units + 65 < cLine) {xs ys : List Vl} {b : Bool} {u v : V} {p q : Value} (e : eqT xs ys = some b) (rx : RB X.K X.mg G H (.tup xs) u) (ry : RB X.K X.mg G H (.tup ys) v) (ru : RelV u p) (rv : RelV v q) :
    ∃ (a a2 : Addr) (its jts : Array Value) (f : Nat → Bool), p = .ref a ∧ q = .ref a2 ∧ IsTup s.heap a its ∧ IsTup s.heap a2 jts ∧ (∀ j (h1 : j < its.size) (h2 : j < jts.size), SeqAt.EqAt X.A.in1 s its[j] jts[j] (f j)) ∧ ((List.range (min its.size jts.size)).all f && its.size == jts.size) = b := by
  obtain ⟨a, us, rfl, h1, r1⟩ := rb_tup rx
  obtain ⟨a2, ws, rfl, h2, r2⟩ := rb_tup ry
  cases ru
  cases rv
  obtain ⟨is, v1, t1, _⟩ := I.tuple h1.sq
  obtain ⟨js, v2, t2, _⟩ := I.tuple h2.sq
  unfold eqT at e
  cases el : eqTl xs ys with
  | none => rw [el] at e; cases e
  | some l =>
    rw [el] at e; cases e
    have n1 := r1.length
    have n2 := r2.length
    have n3 := v1.length
    have n4 := v2.length
    have n5 := eqTl_len el
    refine ⟨a, a2, is.toArray, js.toArray, fun j => (l[j]?).getD true, rfl, rfl, t1, t2, fun j k1 k2 => ?_, ?_⟩
    · have m1 : j < is.length := by simpa using k1
      have m2 : j < js.length := by simpa using k2
      refine eqTl_at I hu el r1 r2 v1 v2 j _ _ ?_ ?_
      · simp [m1]
      · simp [m2]
    · have e1 : min is.toArray.size js.toArray.size = l.length := by rw [List.size_toArray, List.size_toArray]; omega
      have e2 : is.toArray.size = xs.length := by rw [List.size_toArray]; omega
      have e3 : js.toArray.size = ys.length := by rw [List.size_toArray]; omega
      rw [e1, range_all, e2, e3]
theorem len_cmp {pins : List (Addr × Obj)} {σ : L2.St} {s : Shared} (I : Inv X pins σ H s) {x y : Vl} {b : Bool} {u v : V} {p q : Value} (e : lenNe st x y = some b) (hs : StR X.K X.mg G H st) (rx : RB X.K X.mg G H x u) (ry : RB X.K X.mg G H y v) (ru : RelV u p) (rv : RelV v q) :
    b = false ∧ ∃ (a a2 : Addr) (its jts : Array Value), p = .ref a ∧ q = .ref a2 ∧ s.heap.IsList a its ∧ s.heap.IsList a2 jts ∧ (its.size != jts.size) = true := by
  unfold lenNe at e
  split at e
  · rename_i xs ys e1 e2
    split at e
    · cases e
    · rename_i hn
      cases e
      obtain ⟨a, us, rfl, h1, r1⟩ := asLst_ok e1 hs rx
      obtain ⟨a2, ws, rfl, h2, r2⟩ := asLst_ok e2 hs ry
      cases ru
      cases rv
      obtain ⟨is, v1, ⟨o1, n1, k1, c1, _, d1⟩, _⟩ := I.list (.of h1)
      obtain ⟨js, v2, ⟨o2, n2, k2, c2, _, d2⟩, _⟩ := I.list (.of h2)
      have l1 := r1.length
      have l2 := r2.length
      have l3 := v1.length
      have l4 := v2.length
      refine ⟨rfl, a, a2, is.toArray, js.toArray, rfl, rfl, ⟨o1, k1, c1, n1, d1⟩, ⟨o2, k2, c2, n2, d2⟩, ?_⟩
      rw [bne_iff_ne, List.size_toArray, List.size_toArray]
      omega
  · cases e
def rCmpA (K : PySem.W.Frag) (mg : Str → Option Value) (o : Cop) : R2 := fun x y H Q => ∃ G st xv yv z, cmpA o st xv yv = some z ∧ StR K mg G H st ∧ RB K mg G H xv x ∧ RB K mg G H yv y ∧ Q (.bl z) H
theorem op_cmpA (hu : X.A.units + 65 < cLine) (o : Cop) : OpR X (compareOp o.py) (rCmpA X.K X.mg o) := by
  intro pins s σ H x y v u Q I rx ry ⟨G, st, xv, yv, z, e, hs, hx, hy, g⟩
  unfold cmpA at e
  cases q : cmpM o st xv yv with
  | some b =>
    rw [q] at e; cases e
    exact op_cmp hu o pins s σ H x y v u Q I rx ry ⟨G, st, xv, yv, _, q, hs, hx, hy, g⟩
  | none =>
    rw [q] at e
    simp only at e
    have hu2 : X.A.units < cLine := by omega
    split at e
    · obtain ⟨a, a2, its, jts, f, rfl, rfl, t1, t2, he, eb⟩ := tup_cmp I hu e hx hy rx ry
      exact SeqAt.eq_tupleAt t1 t2 hu2 he ⟨.bl _, H, I, by rw [eb]; rfl, g⟩
    · rename_i xs ys
      cases et : eqT xs ys with
      | none => rw [et] at e; cases e
      | some b =>
        rw [et] at e; cases e
        obtain ⟨a, a2, its, jts, f, rfl, rfl, t1, t2, he, eb⟩ := tup_cmp I hu et hx hy rx ry
        exact SeqAt.RcNeAt.tuples t1 t2 hu2 he X.prog X.w X.xe _ ⟨.bl _, H, I, by rw [eb]; rfl, g⟩
    · obtain ⟨rfl, p, q, is, js, rfl, rfl, t1, t2, hne⟩ := len_cmp I e hs hx hy rx ry
      exact SeqAt.eq_list_lengthsAt t1 t2 hne hu2 ⟨.bl _, H, I, rfl, g⟩
    · cases et : lenNe st xv yv with
      | none => rw [et] at e; cases e
      | some b =>
        rw [et] at e; cases e
        obtain ⟨rfl, p, q, is, js, rfl, rfl, t1, t2, hne⟩ := len_cmp I et hs hx hy rx ry
        exact SeqAt.RcNeAt.lists_lengths t1 t2 hne hu2 X.prog X.w X.xe _ ⟨.bl _, H, I, rfl, g⟩
    · cases e
end
end LG

set_option Elab.async false
set_option linter.all false
set_option maxRecDepth 100000
set_option maxHeartbeats 4000000
/-! G9: the checker read backwards. -/
namespace LG
open PySem L2
def isStar : Expr → Bool
  | .Starred _ _ => true
  | _ => false
def isSlc : Expr → Bool
  | .Slice _ _ _ _ => true
  | _ => false
/-- a text whose test is its value's truth -/
def plainT : Expr → Bool
  | .UnaryOp .Not _ _ => false
  | .BoolOp _ _ _ => false
  | .IfExp _ _ _ _ => false
  | .Compare _ _ _ _ => false
  | _ => true
theorem plainT_ok {e : Expr} {env : Env} (h : plainT e = true) : ∀ whole, isTrue e env whole = (do let v ← whole; standAt e.pos; holding [v] (truthy v)) := by
  cases e with
  | UnaryOp op a p => cases op <;> first | exact fun _ => rfl | cases h
  | BoolOp _ _ _ => cases h
  | IfExp _ _ _ _ => cases h
  | Compare _ _ _ _ => cases h
  | _ => exact fun _ => rfl
theorem star_cons {e : Expr} {es : List Expr} {env : Env} (h : isStar e = false) : starEach (e :: es) env = (false, eval e env) :: starEach es env := by
  cases e <;> first | rfl | cases h
theorem slc_plain {e : Expr} (h : isSlc e = false) : PlainIx e := by
  cases e <;> first | exact fun _ _ => rfl | cases h
theorem nc0_base {e : Expr} (h : nc0 e = true) {f : Str} {env : Env} : attributeBase e f env (eval e env) = eval e env := by
  cases e with
  | Call f' as ks p => cases as with
    | nil => cases h
    | cons a as => cases f' <;> rfl
  | _ => rfl
theorem noSet_fold {e : Expr} (h : noSet e = true) {env : Env} : ∀ x, foldedSetIterable e env x = pure x := by
  cases e <;> first | exact fun _ => rfl | cases h
theorem noSet_mark {e : Expr} (h : noSet e = true) {op : CmpOp} : behindInMarks op e = false := by
  cases e <;> first | rfl | cases h
section
variable {c : Sc} {p : Expr}
theorem iE_var {i : Nat} (h : chkE c (.var i) p = true) : ∃ x q, p = .Name x q ∧ nmB c i x = true := by cases p <;> first | exact ⟨_, _, rfl, h⟩ | cases h
theorem iE_own {i : Nat} (h : chkE c (.own i) p = true) : ∃ x q, p = .Name x q ∧ nmB c i x = true := by cases p <;> first | exact ⟨_, _, rfl, h⟩ | cases h
theorem iE_tup {es : Es} (h : chkE c (.tup es) p = true) : ∃ l k q, p = .Tuple l k q ∧ chkEs c es l = true := by cases p <;> first | exact ⟨_, _, _, rfl, h⟩ | cases h
theorem iE_bin {o : Bop} {a b : E} (h : chkE c (.bin o a b) p = true) : ∃ x o' y q, p = .BinOp x o' y q ∧ (beqOp o.py o' && chkE c a x && chkE c b y) = true := by cases p <;> first | exact ⟨_, _, _, _, rfl, h⟩ | cases h
theorem iE_ite {d a b : E} (h : chkE c (.ite d a b) p = true) : ∃ t x y q, p = .IfExp t x y q ∧ (chkE c d t && chkE c a x && chkE c b y) = true := by cases p <;> first | exact ⟨_, _, _, _, rfl, h⟩ | cases h

theorem iE_int {i : Int} (h : chkE c (.int i) p = true) : ∃ k q, p = .Constant (.int i) k q := by
  cases p with
  | Constant v k q => cases v with
    | int j => have e : i = j := of_decide_eq_true h; exact ⟨k, q, by rw [e]⟩
    | _ => cases h
  | _ => cases h
theorem iE_bl {i : Bool} (h : chkE c (.bl i) p = true) : ∃ k q, p = .Constant (.bool i) k q := by
  cases p with
  | Constant v k q => cases v with
    | bool j => have e : i = j := of_decide_eq_true h; exact ⟨k, q, by rw [e]⟩
    | _ => cases h
  | _ => cases h
theorem iE_str {i : Str} (h : chkE c (.str i) p = true) : ∃ k q, p = .Constant (.str i) k q := by
  cases p with
  | Constant v k q => cases v with
    | str j => have e : i = j := of_decide_eq_true h; exact ⟨k, q, by rw [e]⟩
    | _ => cases h
  | _ => cases h
theorem iE_non (h : chkE c .non p = true) : ∃ k q, p = .Constant .none k q := by
  cases p with
  | Constant v k q => cases v with
    | none => exact ⟨k, q, rfl⟩
    | _ => cases h
  | _ => cases h
theorem iE_gstr {n s : Str} (h : chkE c (.gstr n s) p = true) : ∃ q, p = .Name n q ∧ (gnB c n && decide ((n, s) ∈ c.ks)) = true := by
  cases p with
  | Name x q =>
    have h : (decide (n = x) && gnB c x && decide ((n, s) ∈ c.ks)) = true := h
    rw [Bool.and_eq_true, Bool.and_eq_true] at h
    have e : n = x := of_decide_eq_true h.1.1
    subst e
    exact ⟨q, rfl, by rw [h.1.2, h.2]; rfl⟩
  | _ => cases h
theorem iE_gint {n : Str} {k : Int} (h : chkE c (.gint n k) p = true) : ∃ q, p = .Name n q ∧ gnB c n = true ∧ (n, k) ∈ c.ki := by
  cases p with
  | Name x q =>
    have h : (decide (n = x) && gnB c x && decide ((n, k) ∈ c.ki)) = true := h
    simp only [Bool.and_eq_true, decide_eq_true_eq] at h
    obtain ⟨⟨rfl, h2⟩, h3⟩ := h
    exact ⟨q, rfl, h2, h3⟩
  | _ => cases h
theorem iE_neg {a : E} (h : chkE c (.neg a) p = true) : ∃ x q, p = .UnaryOp .USub x q ∧ chkE c a x = true := by
  cases p with
  | UnaryOp o x q => cases o <;> first | exact ⟨_, _, rfl, h⟩ | cases h
  | _ => cases h
theorem iE_nt {a : E} (h : chkE c (.nt a) p = true) : ∃ x q, p = .UnaryOp .Not x q ∧ chkE c a x = true := by
  cases p with
  | UnaryOp o x q => cases o <;> first | exact ⟨_, _, rfl, h⟩ | cases h
  | _ => cases h
theorem iE_and {a b : E} (h : chkE c (.and a b) p = true) : ∃ x y r q, p = .BoolOp .And (x :: y :: r) q ∧ chkE c a x = true ∧ ((r = [] ∧ chkE c b y = true) ∨ (r ≠ [] ∧ chkE c b (.BoolOp .And (y :: r) q) = true)) := by
  cases p with
  | BoolOp o l q => cases o with
    | And => cases l with
      | nil => cases h
      | cons x l => cases l with
        | nil => cases h
        | cons y r => cases r with
          | nil => have h : (chkE c a x && chkE c b y) = true := h; rw [Bool.and_eq_true] at h; exact ⟨x, y, [], q, rfl, h.1, .inl ⟨rfl, h.2⟩⟩
          | cons z r => have h : (chkE c a x && chkE c b (.BoolOp .And (y :: z :: r) q)) = true := h; rw [Bool.and_eq_true] at h; exact ⟨x, y, z :: r, q, rfl, h.1, .inr ⟨List.cons_ne_nil _ _, h.2⟩⟩
    | _ => cases h
  | _ => cases h
theorem iE_or {a b : E} (h : chkE c (.or a b) p = true) : ∃ x y r q, p = .BoolOp .Or (x :: y :: r) q ∧ chkE c a x = true ∧ ((r = [] ∧ chkE c b y = true) ∨ (r ≠ [] ∧ chkE c b (.BoolOp .Or (y :: r) q) = true)) := by
  cases p with
  | BoolOp o l q => cases o with
    | Or => cases l with
      | nil => cases h
      | cons x l => cases l with
        | nil => cases h
        | cons y r => cases r with
          | nil => have h : (chkE c a x && chkE c b y) = true := h; rw [Bool.and_eq_true] at h; exact ⟨x, y, [], q, rfl, h.1, .inl ⟨rfl, h.2⟩⟩
          | cons z r => have h : (chkE c a x && chkE c b (.BoolOp .Or (y :: z :: r) q)) = true := h; rw [Bool.and_eq_true] at h; exact ⟨x, y, z :: r, q, rfl, h.1, .inr ⟨List.cons_ne_nil _ _, h.2⟩⟩
    | _ => cases h
  | _ => cases h
theorem iE_cmp {o : Cop} {a b : E} (h : chkE c (.cmp o a b) p = true) : ∃ x y q, p = .Compare x [o.py] [y] q ∧ chkE c a x = true ∧ chkE c b y = true ∧ noSet y = true := by
  cases p with
  | Compare x ops ys q => cases ops with
    | nil => cases h
    | cons o' ops => cases ops with
      | cons _ _ => cases h
      | nil => cases ys with
        | nil => cases h
        | cons y ys => cases ys with
          | cons _ _ => cases h
          | nil =>
            have h : (beqC o.py o' && chkE c a x && chkE c b y && noSet y) = true := h
            rw [Bool.and_eq_true, Bool.and_eq_true, Bool.and_eq_true] at h
            have e := beqC_eq h.1.1.1
            subst e
            exact ⟨x, y, q, rfl, h.1.1.2, h.1.2, h.2⟩
  | _ => cases h
theorem iE_chn {o o' : Cop} {a b d : E} (h : chkE c (.chn o o' a b d) p = true) : ∃ x y z q, p = .Compare x [o.py, o'.py] [y, z] q ∧ chkE c a x = true ∧ chkE c b y = true ∧ chkE c d z = true ∧ noSet z = true := by
  cases p with
  | Compare x ops ys q => cases ops with
    | nil => cases h
    | cons p1 ops => cases ops with
      | nil => cases h
      | cons p2 ops => cases ops with
        | cons _ _ => cases h
        | nil => cases ys with
          | nil => cases h
          | cons y ys => cases ys with
            | nil => cases h
            | cons z ys => cases ys with
              | cons _ _ => cases h
              | nil =>
                have h : (beqC o.py p1 && beqC o'.py p2 && chkE c a x && chkE c b y && chkE c d z && noSet z) = true := h
                simp only [Bool.and_eq_true] at h
                have e := beqC_eq h.1.1.1.1.1
                have e' := beqC_eq h.1.1.1.1.2
                subst e e'
                exact ⟨x, y, z, q, rfl, h.1.1.1.2, h.1.1.2, h.1.2, h.2⟩
  | _ => cases h
theorem iE_idx {a i : E} (h : chkE c (.idx a i) p = true) : ∃ x y q, p = .Subscript x y q ∧ chkE c a x = true ∧ chkE c i y = true := by
  cases p with
  | Subscript x y q => have h : (chkE c a x && chkE c i y) = true := h; rw [Bool.and_eq_true] at h; exact ⟨x, y, q, rfl, h.1, h.2⟩
  | _ => cases h
theorem iE_slc {a : E} {lo hi : Eo} (h : chkE c (.slc a lo hi) p = true) : ∃ x l u q2 q, p = .Subscript x (.Slice l u none q2) q ∧ chkE c a x = true ∧ chkO c lo l = true ∧ chkO c hi u = true := by
  cases p with
  | Subscript x y q => cases y with
    | Slice l u s q2 => cases s with
      | none => have h : (chkE c a x && chkO c lo l && chkO c hi u) = true := h; rw [Bool.and_eq_true, Bool.and_eq_true] at h; exact ⟨x, l, u, q2, q, rfl, h.1.1, h.1.2, h.2⟩
      | some _ => cases h
    | _ => cases h
  | _ => cases h
theorem iE_rev {a : E} (h : chkE c (.rev a) p = true) : ∃ x k p1 p2 p3 q, p = .Subscript x (.Slice none none (some (.UnaryOp .USub (.Constant (.int 1) k p1) p2)) p3) q ∧ chkE c a x = true := by
  unfold chkE at h
  split at h
  all_goals first | (cases h; done) | skip
  all_goals rename_i e1
  all_goals first | (cases e1; exact ⟨_, _, _, _, _, _, rfl, h⟩) | (cases e1)
theorem iE_isi {a : E} {cs : List Cn} (h : chkE c (.isi a cs) p = true) : ∃ n p1 x y q, p = .Call (.Name n p1) [x, y] [] q ∧ n = "isinstance" ∧ gnB c n = true ∧ chkE c a x = true ∧ clsEs c cs y = true := by
  cases p with
  | Call f l ks q => cases f with
    | Name n p1 => cases l with
      | nil => cases h
      | cons x l => cases l with
        | nil => cases h
        | cons y l => cases l with
          | cons _ _ => cases h
          | nil => cases ks with
            | cons _ _ => cases h
            | nil =>
              have h : (decide (n = "isinstance") && gnB c n && chkE c a x && clsEs c cs y) = true := h
              simp only [Bool.and_eq_true] at h
              exact ⟨n, p1, x, y, q, rfl, of_decide_eq_true h.1.1.1, h.1.1.2, h.1.2, h.2⟩
    | _ => cases h
  | _ => cases h
theorem iE_blt {f : Bf} {es : Es} (h : chkE c (.blt f es) p = true) : ∃ p1 x l q, p = .Call (.Name f.py p1) (x :: l) [] q ∧ gnB c f.py = true ∧ chkEs c es (x :: l) = true := by
  cases p with
  | Call g l ks q => cases g with
    | Name n p1 => cases l with
      | nil => cases h
      | cons x l => cases ks with
        | cons _ _ => cases h
        | nil =>
          have h : (decide (n = f.py) && gnB c n && chkEs c es (x :: l)) = true := h
          simp only [Bool.and_eq_true] at h
          have e := of_decide_eq_true h.1.1
          subst e
          exact ⟨p1, x, l, q, rfl, h.1.2, h.2⟩
    | _ => cases h
  | _ => cases h
theorem iE_txt {f : Tf} {a : E} {es : Es} (h : chkE c (.txt f a es) p = true) : ∃ x ap l q, p = .Call (.Attribute x f.py ap) l [] q ∧ chkE c a x = true ∧ chkEs c es l = true ∧ nc0 x = true ∧ (ap.endLine == q.line) = true ∧ l.length < 29 := by
  cases p with
  | Call g l ks q => cases g with
    | Attribute x n ap => cases ks with
      | cons _ _ => cases h
      | nil =>
        have h : (decide (n = f.py) && chkE c a x && chkEs c es l && nc0 x && (ap.endLine == q.line) && decide (l.length < 29)) = true := h
        simp only [Bool.and_eq_true] at h
        have e := of_decide_eq_true h.1.1.1.1.1
        subst e
        exact ⟨x, ap, l, q, rfl, h.1.1.1.1.2, h.1.1.1.2, h.1.1.2, h.1.2, of_decide_eq_true h.2⟩
    | _ => cases h
  | _ => cases h
theorem iE_atr {a : E} {f : Str} (h : chkE c (.atr a f) p = true) : ∃ x q, p = .Attribute x f q ∧ chkE c a x = true ∧ nc0 x = true := by
  cases p with
  | Attribute x g q =>
    have h : (decide (f = g) && chkE c a x && nc0 x) = true := h
    simp only [Bool.and_eq_true] at h
    have e := of_decide_eq_true h.1.1
    subst e
    exact ⟨x, q, rfl, h.1.2, h.2⟩
  | _ => cases h
theorem iE_mkx {n : Str} {a : E} (h : chkE c (.mkx n a) p = true) : ∃ p1 x q, p = .Call (.Name n p1) [x] [] q ∧ gnB c n = true ∧ chkE c a x = true := by
  cases p with
  | Call g l ks q => cases g with
    | Name m p1 => cases l with
      | nil => cases h
      | cons x l => cases l with
        | cons _ _ => cases h
        | nil => cases ks with
          | cons _ _ => cases h
          | nil =>
            have h : (decide (n = m) && gnB c m && chkE c a x) = true := h
            simp only [Bool.and_eq_true] at h
            have e := of_decide_eq_true h.1.1
            subst e
            exact ⟨p1, x, q, rfl, h.1.2, h.2⟩
    | _ => cases h
  | _ => cases h
theorem iE_mkk {n : Str} {a : E} (h : chkE c (.mkk n a) p = true) : ∃ p1 x kp q, p = .Call (.Name n p1) [] [⟨some (attrOf n), x, kp⟩] q ∧ gnB c n = true ∧ chkE c a x = true := by
  cases p with
  | Call g l ks q => cases g with
    | Name m p1 => cases l with
      | cons _ _ => cases h
      | nil => cases ks with
        | nil => cases h
        | cons k ks =>
          obtain ⟨ko, x, kp⟩ := k
          cases ko with
          | none => cases ks <;> cases h
          | some g => cases ks with
            | cons _ _ => cases h
            | nil =>
              have h : (decide (n = m) && gnB c m && chkE c a x && decide (g = attrOf n)) = true := h
              simp only [Bool.and_eq_true] at h
              have e := of_decide_eq_true h.1.1.1
              subst e
              have e := of_decide_eq_true h.2
              subst e
              exact ⟨p1, x, kp, q, rfl, h.1.1.2, h.1.2⟩
    | _ => cases h
  | _ => cases h
theorem iE_cal {f : Str} {es : Es} (h : chkE c (.cal f es) p = true) : ∃ p1 l q, p = .Call (.Name f p1) l [] q ∧ gnB c f = true ∧ chkEs c es l = true := by
  cases p with
  | Call g l ks q => cases g with
    | Name n p1 => cases ks with
      | cons _ _ => cases h
      | nil =>
        have h : (decide (n = f) && gnB c n && chkEs c es l) = true := h
        simp only [Bool.and_eq_true] at h
        have e := of_decide_eq_true h.1.1
        subst e
        exact ⟨p1, l, q, rfl, h.1.2, h.2⟩
    | _ => cases h
  | _ => cases h
theorem iEs_nil {l : List Expr} (h : chkEs c .nil l = true) : l = [] := by cases l <;> first | rfl | cases h
theorem iEs_cons {e : E} {es : Es} {l : List Expr} (h : chkEs c (.cons e es) l = true) : ∃ x r, l = x :: r ∧ chkE c e x = true ∧ chkEs c es r = true := by
  cases l with
  | nil => cases h
  | cons x r => have h : (chkE c e x && chkEs c es r) = true := h; rw [Bool.and_eq_true] at h; exact ⟨x, r, rfl, h.1, h.2⟩
theorem iO_non {o : Option Expr} (h : chkO c .non o = true) : o = none := by cases o <;> first | rfl | cases h
theorem iO_som {e : E} {o : Option Expr} (h : chkO c (.som e) o = true) : ∃ x, o = some x ∧ chkE c e x = true := by cases o <;> first | exact ⟨_, rfl, h⟩ | cases h
theorem iC_non {l : List Expr} (h : chkC c .non l = true) : l = [] := by cases l <;> first | rfl | cases h
theorem iC_som {e : E} {l : List Expr} (h : chkC c (.som e) l = true) : ∃ x, l = [x] ∧ chkE c e x = true := by
  cases l with
  | nil => cases h
  | cons x l => cases l with
    | nil => exact ⟨x, rfl, h⟩
    | cons _ _ => cases h

theorem iF_lst {es : Es} (h : chkF c (.lst es) p = true) : ∃ l q, p = .List l q ∧ chkEs c es l = true := by cases p <;> first | exact ⟨_, _, rfl, h⟩ | cases h
theorem iF_dnewK (h : chkF c .dnewK p = true) : ∃ q, p = .Dict [] [] q := by
  cases p with
  | Dict k v q => cases k <;> cases v <;> first | exact ⟨_, rfl⟩ | cases h
  | _ => cases h
theorem iF_dnewT (h : chkF c .dnewT p = true) : ∃ q, p = .Dict [] [] q := by
  cases p with
  | Dict k v q => cases k <;> cases v <;> first | exact ⟨_, rfl⟩ | cases h
  | _ => cases h
theorem iF_disp {ks : List Str} {es : Es} (h : chkF c (.disp ks es) p = true) : ∃ kl vl q, p = .Dict kl vl q ∧ keysB ks kl = true ∧ chkEs c es vl = true ∧ ks.length = vl.length ∧ ks ≠ [] ∧ ks.length ≤ 15 := by
  cases p with
  | Dict kl vl q =>
    have h : (keysB ks kl && chkEs c es vl && decide (ks.length = vl.length) && decide (ks ≠ []) && decide (ks.length ≤ 15)) = true := by
      cases kl <;> cases vl <;> exact h
    simp only [Bool.and_eq_true] at h
    exact ⟨kl, vl, q, rfl, h.1.1.1.1, h.1.1.1.2, of_decide_eq_true h.1.1.2, of_decide_eq_true h.1.2, of_decide_eq_true h.2⟩
  | _ => cases h
theorem iF_comp {own : List (Str × Nat)} {elt : E} {t : T} {it : It} {cs : Eo} (h : chkF c (.comp own elt t it cs) p = true) : ∃ x tg i ifs scope q, p = .ListComp x [⟨tg, i, ifs, 0⟩] scope q ∧ blkC c.N c.sc scope own = true ∧ chkI c it i = true ∧
    chkT ⟨c.N, scope, c.ks, c.ki⟩ t tg = true ∧ chkC ⟨c.N, scopeOf scope c.sc, c.ks, c.ki⟩ cs ifs = true ∧ chkE ⟨c.N, scopeOf scope c.sc, c.ks, c.ki⟩ elt x = true ∧ noSet i = true ∧ inT own t = true := by
  cases p with
  | ListComp x gs scope q => cases gs with
    | nil => cases h
    | cons g gs => cases gs with
      | cons _ _ => obtain ⟨tg, i, ifs, k⟩ := g; cases h
      | nil =>
        obtain ⟨tg, i, ifs, k⟩ := g
        have h : (decide (k = 0) && blkC c.N c.sc scope own && chkI c it i && chkT ⟨c.N, scope, c.ks, c.ki⟩ t tg && chkC ⟨c.N, scopeOf scope c.sc, c.ks, c.ki⟩ cs ifs && chkE ⟨c.N, scopeOf scope c.sc, c.ks, c.ki⟩ elt x && noSet i && inT own t) = true := h
        simp only [Bool.and_eq_true] at h
        have e := of_decide_eq_true h.1.1.1.1.1.1.1
        subst e
        exact ⟨x, tg, i, ifs, scope, q, rfl, h.1.1.1.1.1.1.2, h.1.1.1.1.1.2, h.1.1.1.1.2, h.1.1.1.2, h.1.1.2, h.1.2, h.2⟩
  | _ => cases h
theorem iF_blt {f : Ff} {a : E} (h : chkF c (.blt f a) p = true) : ∃ p1 x q, p = .Call (.Name f.py p1) [x] [] q ∧ gnB c f.py = true ∧ chkE c a x = true := by
  cases p with
  | Call g l ks q => cases g with
    | Name n p1 => cases l with
      | nil => cases h
      | cons x l => cases l with
        | cons _ _ => cases h
        | nil => cases ks with
          | cons _ _ => cases h
          | nil =>
            have h : (decide (n = f.py) && gnB c n && chkE c a x) = true := h
            simp only [Bool.and_eq_true] at h
            have e := of_decide_eq_true h.1.1
            subst e
            exact ⟨p1, x, q, rfl, h.1.2, h.2⟩
    | _ => cases h
  | _ => cases h
theorem iF_slc {a : E} {lo hi : Eo} (h : chkF c (.slc a lo hi) p = true) : ∃ x l u q2 q, p = .Subscript x (.Slice l u none q2) q ∧ chkE c a x = true ∧ chkO c lo l = true ∧ chkO c hi u = true := by
  cases p with
  | Subscript x y q => cases y with
    | Slice l u s q2 => cases s with
      | none => have h : (chkE c a x && chkO c lo l && chkO c hi u) = true := h; rw [Bool.and_eq_true, Bool.and_eq_true] at h; exact ⟨x, l, u, q2, q, rfl, h.1.1, h.1.2, h.2⟩
      | some _ => cases h
    | _ => cases h
  | _ => cases h
theorem iF_bin {o : Bop} {a b : E} (h : chkF c (.bin o a b) p = true) : ∃ x y q, p = .BinOp x o.py y q ∧ chkE c a x = true ∧ chkE c b y = true := by
  cases p with
  | BinOp x o' y q =>
    have h : (beqOp o.py o' && chkE c a x && chkE c b y) = true := h
    simp only [Bool.and_eq_true] at h
    have e := beqOp_eq h.1.1
    subst e
    exact ⟨x, y, q, rfl, h.1.2, h.2⟩
  | _ => cases h
theorem iF_cal {f : Str} {es : Es} (h : chkF c (.cal f es) p = true) : ∃ p1 l q, p = .Call (.Name f p1) l [] q ∧ gnB c f = true ∧ chkEs c es l = true := by
  cases p with
  | Call g l ks q => cases g with
    | Name n p1 => cases ks with
      | cons _ _ => cases h
      | nil =>
        have h : (decide (n = f) && gnB c n && chkEs c es l) = true := h
        simp only [Bool.and_eq_true] at h
        have e := of_decide_eq_true h.1.1
        subst e
        exact ⟨p1, l, q, rfl, h.1.2, h.2⟩
    | _ => cases h
  | _ => cases h
theorem iI_rng1 {a : E} (h : chkI c (.rng1 a) p = true) : ∃ p1 x q, p = .Call (.Name "range" p1) [x] [] q ∧ gnB c "range" = true ∧ chkE c a x = true := by
  cases p with
  | Call g l ks q => cases g with
    | Name n p1 => cases l with
      | nil => cases h
      | cons x l => cases l with
        | cons _ _ => cases h
        | nil => cases ks with
          | cons _ _ => cases h
          | nil =>
            have h : (decide (n = "range") && gnB c n && chkE c a x) = true := h
            simp only [Bool.and_eq_true] at h
            have e := of_decide_eq_true h.1.1
            subst e
            exact ⟨p1, x, q, rfl, h.1.2, h.2⟩
    | _ => cases h
  | _ => cases h
theorem iI_rng2 {a b : E} (h : chkI c (.rng2 a b) p = true) : ∃ p1 x y q, p = .Call (.Name "range" p1) [x, y] [] q ∧ gnB c "range" = true ∧ chkE c a x = true ∧ chkE c b y = true := by
  cases p with
  | Call g l ks q => cases g with
    | Name n p1 => cases l with
      | nil => cases h
      | cons x l => cases l with
        | nil => cases h
        | cons y l => cases l with
          | cons _ _ => cases h
          | nil => cases ks with
            | cons _ _ => cases h
            | nil =>
              have h : (decide (n = "range") && gnB c n && chkE c a x && chkE c b y) = true := h
              simp only [Bool.and_eq_true] at h
              have e := of_decide_eq_true h.1.1.1
              subst e
              exact ⟨p1, x, y, q, rfl, h.1.1.2, h.1.2, h.2⟩
    | _ => cases h
  | _ => cases h
theorem chkF_kind {f : Fr} (h : chkF c f p = true) : isStar p = false ∧ isSlc p = false ∧ plainT p = true := by
  cases f with
  | lst es => obtain ⟨l, q, rfl, _⟩ := iF_lst h; exact ⟨rfl, rfl, rfl⟩
  | dnewK => obtain ⟨q, rfl⟩ := iF_dnewK h; exact ⟨rfl, rfl, rfl⟩
  | dnewT => obtain ⟨q, rfl⟩ := iF_dnewT h; exact ⟨rfl, rfl, rfl⟩
  | disp ks es => obtain ⟨_, _, q, rfl, _⟩ := iF_disp h; exact ⟨rfl, rfl, rfl⟩
  | comp own elt t it cs => obtain ⟨_, _, _, _, _, q, rfl, _⟩ := iF_comp h; exact ⟨rfl, rfl, rfl⟩
  | blt f a => obtain ⟨_, _, q, rfl, _⟩ := iF_blt h; exact ⟨rfl, rfl, rfl⟩
  | slc a lo hi => obtain ⟨_, _, _, _, q, rfl, _⟩ := iF_slc h; exact ⟨rfl, rfl, rfl⟩
  | bin o a b => obtain ⟨_, _, q, rfl, _⟩ := iF_bin h; exact ⟨rfl, rfl, rfl⟩
  | cal f es => obtain ⟨_, _, q, rfl, _⟩ := iF_cal h; exact ⟨rfl, rfl, rfl⟩
theorem chkE_star {e : E} (h : chkE c e p = true) : isStar p = false := by
  cases p with
  | Starred x q =>
    cases e with
    | fr f => exact (chkF_kind (show chkF c f _ = true from h)).1
    | mko f => exact (chkF_kind (show chkF c f _ = true from h)).1
    | _ => cases h
  | _ => rfl
theorem chkE_slc {e : E} (h : chkE c e p = true) : isSlc p = false := by
  cases p with
  | Slice x q r t =>
    cases e with
    | fr f => exact (chkF_kind (show chkF c f _ = true from h)).2.1
    | mko f => exact (chkF_kind (show chkF c f _ = true from h)).2.1
    | _ => cases h
  | _ => rfl
def noStars (l : List Expr) : Bool := l.all fun e => !isStar e
theorem chkEs_star {es : Es} {l : List Expr} (h : chkEs c es l = true) : noStars l = true := by
  induction l generalizing es with
  | nil => rfl
  | cons x l ih =>
    cases es with
    | nil => cases h
    | cons e es =>
      have h : (chkE c e x && chkEs c es l) = true := h
      rw [Bool.and_eq_true] at h
      show (!isStar x && noStars l) = true
      rw [chkE_star h.1, ih h.2]; rfl
theorem noStars_each {env : Env} : ∀ {l : List Expr}, noStars l = true → starEach l env = l.map fun e => (false, eval e env)
  | [], _ => rfl
  | x :: l, h => by
    have h : (!isStar x && noStars l) = true := h
    rw [Bool.and_eq_true, Bool.not_eq_true'] at h
    rw [star_cons h.1, noStars_each h.2, List.map_cons]
theorem noStars_any {env : Env} {pos : Pos} {l : List Expr} (h : noStars l = true) : (backTo pos (starEach l env)).any (·.1) = false := by
  rw [noStars_each h]
  unfold backTo
  rw [List.map_map, List.any_map]
  simp [Function.comp_def]
theorem noStars_few {env : Env} {pos : Pos} {l : List Expr} (h : noStars l = true) (n : l.length < 29) : ((backTo pos (starEach l env)).all (fun x => !x.1) && (backToKw pos (keywordEach [] env)).all (fun x => x.1.isSome)
      && decide (l.length + ([] : List Keyword).length + (if ([] : List Keyword).isEmpty then 0 else 1) < 30)) = true := by
  have e1 : (backTo pos (starEach l env)).all (fun x => !x.1) = true := by
    rw [noStars_each h]
    unfold backTo
    rw [List.map_map, List.all_map]
    simp [Function.comp_def]
  rw [e1]
  simp only [Bool.true_and, Bool.and_eq_true, decide_eq_true_eq]
  refine ⟨rfl, ?_⟩
  show l.length + 0 + 0 < 30
  omega
end
end LG

set_option Elab.async false
set_option linter.all false
set_option maxRecDepth 100000
set_option maxHeartbeats 4000000
/-! G10: what an expression's evaluation says of the walk: the cases. -/
namespace LG
open PySem L2
abbrev Pn := List (Addr × Obj)
def rdE (X : Cx) (p : Expr) : TE := fun σ H Q => ∀ (pins : Pn) (s : Shared), Inv X pins σ H s → wpAny (model X.prog X.w) X.A (eval p X.env) (EP X pins σ Q) X.xe s
def rdT (X : Cx) (p : Expr) : TT := fun σ H Q => ∀ (pins : Pn) (s : Shared), Inv X pins σ H s → wpAny (model X.prog X.w) X.A (isTrue p X.env (eval p X.env)) (TP X pins σ Q) X.xe s
def rdA (X : Cx) (l : List Expr) : TA := fun σ H Q => ∀ (pos : Pos) (pins : Pn) (s : Shared), Inv X pins σ H s → wpAny (model X.prog X.w) X.A (spliced (backTo pos (starEach l X.env))) (AP X pins σ Q) X.xe s
def rdO (X : Cx) (o : Option Expr) : TO := fun σ H Q => ∀ (pins : Pn) (s : Shared), Inv X pins σ H s → wpAny (model X.prog X.w) X.A (evalPart o X.env) (fun u s' => ∃ o H', Inv X pins σ H' s' ∧ IsPart u o ∧ Q o H') X.xe s
def rdI (X : Cx) (tg p : Expr) : TI := fun σ H R => ∀ (pins : Pn) (s : Shared), Inv X pins σ H s →
  wpAny (model X.prog X.w) X.A (eval p X.env) (fun v s1 => wpAny (model X.prog X.w) X.A (pyIter v) (PIE X pins σ tg R) X.xe s1) X.xe s
section
variable {X : Cx} {p : Expr}
theorem rdE_pe : PE X p (rdE X p) := ⟨fun pins s σ H Q I h => h pins s I⟩
theorem rdT_pt : PT X p (rdT X p) := ⟨fun pins s σ H Q I h => h pins s I⟩
theorem rdA_pa {l : List Expr} : PA X l (rdA X l) := ⟨fun pos pins s σ H Q I h => h pos pins s I⟩
theorem rdO_po {o : Option Expr} : PO X o (rdO X o) := ⟨fun pins s σ H Q I h => h pins s I⟩
theorem rdI_pi {tg : Expr} : PI X tg p (rdI X tg p) := ⟨fun pins s σ H Q I h => h pins s I⟩
theorem rdE_of {t : TE} (h : PE X p t) {σ : L2.St} {H : Hp} {Q : VK} (q : t σ H Q) : rdE X p σ H Q := fun pins s I => h.run pins s σ H Q I q
theorem rdT_of {t : TT} (h : PT X p t) {σ : L2.St} {H : Hp} {Q : Bool → Hp → Prop} (q : t σ H Q) : rdT X p σ H Q := fun pins s I => h.run pins s σ H Q I q
theorem rdA_of {l : List Expr} {t : TA} (h : PA X l t) {σ : L2.St} {H : Hp} {Q : List V → Hp → Prop} (q : t σ H Q) : rdA X l σ H Q := fun pos pins s I => h.run pos pins s σ H Q I q
theorem rdO_of {o : Option Expr} {t : TO} (h : PO X o t) {σ : L2.St} {H : Hp} {Q : Option Int → Hp → Prop} (q : t σ H Q) : rdO X o σ H Q := fun pins s I => h.run pins s σ H Q I q
theorem rdI_of {tg : Expr} {t : TI} (h : PI X tg p t) {σ : L2.St} {H : Hp} {R : L2.It → Hp → Prop} (q : t σ H R) : rdI X tg p σ H R := fun pins s I => h.run pins s σ H R I q
end

/-! ### what stands around a text -/
def bltN : List Str := ["len", "abs", "int", "str", "repr", "all", "any", "tuple", "min", "max", "sum", "list", "sorted", "dict", "isinstance", "range", "bool", "set", "enumerate", "zip", "reversed", "ValueError", "Exception", "TypeError", "frozenset", "type"]
structure Same (X Y : Cx) : Prop where
  prog : Y.prog = X.prog
  w : Y.w = X.w
  K : Y.K = X.K
  mg : Y.mg = X.mg
  base : Y.base = X.base
  A : Y.A = X.A
  calm : Y.calm = X.calm
theorem Same.refl {X : Cx} : Same X X := ⟨rfl, rfl, rfl, rfl, rfl, rfl, rfl⟩
theorem Same.trans {X Y Z : Cx} (a : Same X Y) (b : Same Y Z) : Same X Z := ⟨b.prog.trans a.prog, b.w.trans a.w, b.K.trans a.K, b.mg.trans a.mg, b.base.trans a.base, b.A.trans a.A, b.calm.trans a.calm⟩
/-- a call's end, by what it means -/
def rCal (X : Cx) (C : Ca) (W : WX) (f : Str) (σ : L2.St) : List V → Hp → VK → Prop := fun vs H Q => ∃ G st xs, StR X.K X.mg G H st ∧ RBs X.K X.mg G H xs vs ∧
  Cov X.K X.mg (WE W σ) G H (C.call f xs st) (fun r st' G' H' => ∀ v, RR X.K X.mg H G' H' r v → Q v H')
/-- an error's making, by what it means -/
def rErr (X : Cx) (n : Str) : L2.V → Hp → VK → Prop := fun v H Q => ∃ G st x, StR X.K X.mg G H st ∧ RV X.K X.mg G H x v ∧ (∃ z, bltM .repr st [x] = some (.str z) ∧ (preOf n).length + z.length ≤ sizeLine) ∧
  ∀ G' H' u, Ext G H G' H' → StR X.K X.mg G' H' st → RV X.K X.mg G' H' (.err n x) u → Q u H'
structure CalR (X : Cx) (C : Ca) (W : WX) : Prop where
  go : ∀ (f : Str) (q pos : Pos) (e : Expr) (l : List Expr) (t : TA), C.has f = true → Gl X f → (f == ("__debug__" : Str)) = false → noStars (e :: l) = true → PA X (e :: l) t →
    PE X (.Call (.Name f q) (e :: l) [] pos) (fun σ H Q => t σ H fun vs H1 => rCal X C W f σ vs H1 Q)
  mkx : ∀ (n : Str) (q pos : Pos) (e : Expr) (t : TE), C.err n = true → Gl X n → (n == ("__debug__" : Str)) = false → isStar e = false → PE X e t → PE X (.Call (.Name n q) [e] [] pos) (fun σ H Q => t σ H fun v H1 => rErr X n v H1 Q)
  mkk : ∀ (n : Str) (q pos kp : Pos) (e : Expr) (t : TE), C.err n = true → Gl X n → (n == ("__debug__" : Str)) = false → PE X e t → PE X (.Call (.Name n q) [] [⟨some (attrOf n), e, kp⟩] pos) (fun σ H Q => t σ H fun v H1 => rErr X n v H1 Q)
  go0 : ∀ (f : Str) (q pos : Pos), C.has f = true → Gl X f → (f == ("__debug__" : Str)) = false → PE X (.Call (.Name f q) [] [] pos) (fun σ H Q => rCal X C W f σ [] H Q)
structure Wd (X : Cx) (c : Sc) (C : Ca) (W : WX) : Prop where
  ar : Ar X
  nm : X.N = c.N
  sc : X.env.scope = c.sc
  nd : X.N.Nodup
  bl : ∀ n ∈ bltN, X.mg n = none
  ks : ∀ n s, (n, s) ∈ c.ks → ∃ t, X.mg n = some (.str s t)
  ki : ∀ n i, (n, i) ∈ c.ki → ∃ t, X.mg n = some (.int i t)
  isa : IsaT X.K X.mg C.cls
  tk : Takes X W
  cal : ∀ Y V, Same X Y → Takes Y V → CalR Y C V
theorem visB_ok {s : Scope} {x : Str} (h : visB s x = true) : Vis s x := by
  unfold visB at h
  split at h
  · rename_i e; exact .inl e
  · rename_i e; exact .inr (.inl e)
  · rename_i e; exact .inr (.inr e)
  · cases h
theorem locB_ok {s : Scope} {x : Str} (h : locB s x = true) : Loc s x := by
  unfold locB at h
  split at h
  · rename_i e; exact .inl e
  · rename_i e; exact .inr e
  · cases h
theorem glB_ok {s : Scope} {x : Str} (h : glB s x = true) : s.names.lookup x = some .globalImplicit := by
  unfold glB at h
  split at h
  · rename_i e; exact e
  · cases h
section
variable {X : Cx} {c : Sc} {C : Ca} {W : WX}
theorem Wd.gn (w : Wd X c C W) {x : Str} (h : gnB c x = true) : Gl X x ∧ (x == ("__debug__" : Str)) = false ∧ x ≠ "__name__" := by
  unfold gnB at h
  simp only [Bool.and_eq_true, Bool.not_eq_true', decide_eq_true_eq] at h
  refine ⟨?_, h.1.2, h.2⟩
  show X.env.scope.names.lookup x = _
  rw [w.sc]
  exact glB_ok h.1.1
theorem Wd.vr (w : Wd X c C W) {i : Nat} {x : Str} {q : Pos} (h : nmB c i x = true) : PE X (.Name x q) (tVar i) := by
  unfold nmB at h
  simp only [Bool.and_eq_true, Bool.not_eq_true', decide_eq_true_eq] at h
  exact pe_var (by rw [w.nm]; exact h.1.1.1) (by rw [w.sc]; exact visB_ok h.1.1.2) h.1.2 h.2
theorem Wd.hu (w : Wd X c C W) : X.A.units + 65 < cLine := by have := w.ar.un; omega

/-! ### the meaning of a text's evaluation -/
def SE (X : Cx) (W : WX) (p : Expr) (m : Ev → M Vl) : Prop := ∀ (Z : Fz) (al : Nat → Option Addr) (r : Ev) (σ : L2.St) (G : Gh) (H : Hp) (st : Sto) (Q : VK), EnvR X.K X.mg Z al G H r σ → StR X.K X.mg G H st →
  Cov X.K X.mg (WE W σ) G H (m r st) (fun x st' G' H' => ∀ v, RB X.K X.mg G' H' x v → Q v H') → rdE X p σ H Q
def STt (X : Cx) (W : WX) (p : Expr) (m : Ev → M Bool) : Prop := ∀ (Z : Fz) (al : Nat → Option Addr) (r : Ev) (σ : L2.St) (G : Gh) (H : Hp) (st : Sto) (Q : Bool → Hp → Prop), EnvR X.K X.mg Z al G H r σ → StR X.K X.mg G H st →
  Cov X.K X.mg (WE W σ) G H (m r st) (fun b st' G' H' => Q b H') → rdT X p σ H Q
def SEs (X : Cx) (W : WX) (l : List Expr) (m : Ev → M (List Vl)) : Prop := ∀ (Z : Fz) (al : Nat → Option Addr) (r : Ev) (σ : L2.St) (G : Gh) (H : Hp) (st : Sto) (Q : List V → Hp → Prop), EnvR X.K X.mg Z al G H r σ → StR X.K X.mg G H st →
  Cov X.K X.mg (WE W σ) G H (m r st) (fun xs st' G' H' => ∀ vs, RBs X.K X.mg G' H' xs vs → Q vs H') → rdA X l σ H Q
def SO (X : Cx) (W : WX) (o : Option Expr) (m : Ev → M (Option Int)) : Prop := ∀ (Z : Fz) (al : Nat → Option Addr) (r : Ev) (σ : L2.St) (G : Gh) (H : Hp) (st : Sto) (Q : Option Int → Hp → Prop), EnvR X.K X.mg Z al G H r σ → StR X.K X.mg G H st →
  Cov X.K X.mg (WE W σ) G H (m r st) (fun b st' G' H' => Q b H') → rdO X o σ H Q
def SF (X : Cx) (W : WX) (p : Expr) (m : Ev → M Ob) : Prop := ∀ (Z : Fz) (al : Nat → Option Addr) (r : Ev) (σ : L2.St) (G : Gh) (H : Hp) (st : Sto) (Q : VK), EnvR X.K X.mg Z al G H r σ → StR X.K X.mg G H st →
  Cov X.K X.mg (WE W σ) G H (m r st) (fun o st' G' H' => ∀ v, FR X.K X.mg H G' H' o v → Q v H') → rdE X p σ H Q

/-! ### names, constants -/
theorem se_var (w : Wd X c C W) {i : Nat} {x : Str} {q : Pos} (h : nmB c i x = true) : SE X W (.Name x q) (fun r => slV r[i]?) := by
  intro Z al r σ G H st Q en hs h1
  refine rdE_of (w.vr h) ?_
  have h1 : Cov X.K X.mg (WE W σ) G H (slV r[i]? st) _ := h1
  cases e : r[i]? with
  | none => rw [e] at h1; exact h1.elim
  | some sl =>
    rw [e] at h1
    cases sl with
    | v y =>
      obtain ⟨u, e2, rb⟩ := en.var e
      exact ⟨u, e2, h1 G H .refl hs u rb⟩
    | _ => exact h1.elim
theorem se_own (w : Wd X c C W) {i : Nat} {x : Str} {q : Pos} (h : nmB c i x = true) : SE X W (.Name x q) (fun r => slO r[i]?) := by
  intro Z al r σ G H st Q en hs h1
  refine rdE_of (w.vr h) ?_
  have h1 : Cov X.K X.mg (WE W σ) G H (slO r[i]? st) _ := h1
  cases e : r[i]? with
  | none => rw [e] at h1; exact h1.elim
  | some sl =>
    rw [e] at h1
    cases sl with
    | l y =>
      obtain ⟨a, us, e1, e2, e3, rs⟩ := en.ownL e
      exact ⟨_, e2, h1 G H .refl hs _ (.inr ⟨_, a, us, rfl, rfl, (en.own i a e1).2.1, e3, rs⟩)⟩
    | _ => exact h1.elim
theorem se_con {p : Expr} {x : Vl} {v : V} (hp : PE X p (tC v)) (hr : ∀ G H, RB X.K X.mg G H x v) : SE X W p (fun _ => ret x) := fun Z al r σ G H st Q en hs h => rdE_of hp (h.ret hs v (hr G H))
theorem se_gstr (w : Wd X c C W) {n s : Str} {q : Pos} (h : gnB c n = true) (hk : (n, s) ∈ c.ks) : SE X W (.Name n q) (fun _ => ret (.str s)) := by
  obtain ⟨t, e⟩ := w.ks n s hk
  obtain ⟨h1, h2, _⟩ := w.gn h
  exact se_con (pe_glob h1 e (show RelV (.str s) _ from ⟨t, rfl⟩) h2) fun _ _ => .inl (.str s)

theorem se_gint (w : Wd X c C W) {n : Str} {k : Int} {q : Pos} (h : gnB c n = true) (hk : (n, k) ∈ c.ki) : SE X W (.Name n q) (fun _ => ret (.int k)) := by
  obtain ⟨t, e⟩ := w.ki n k hk
  obtain ⟨h1, h2, _⟩ := w.gn h
  exact se_con (pe_glob h1 e (show RelV (.int k) _ from ⟨t, rfl⟩) h2) fun _ _ => .inl (.int k)

/-! ### tests -/
theorem st_tru {p : Expr} {m : Ev → M Vl} (hp : plainT p = true) (h : SE X W p m) : STt X W p (fun r => bnd (m r) fun x => look fun st => truM st x) := by
  intro Z al r σ G H st Q en hs h1
  refine rdT_of (pt_truth rdE_pe (plainT_ok hp)) ?_
  refine h Z al r σ G H st _ en hs (h1.bnd.mono fun x st1 G1 H1 e1 s1 h2 v rv => ?_)
  obtain ⟨b, eb, hb⟩ := h2.look
  exact ⟨b, tru_of eb s1 rv, hb G1 H1 .refl s1⟩
theorem both_tru {p : Expr} {m : Ev → M Vl} (hp : plainT p = true) (h : SE X W p m) : SE X W p (fun r => (tru (m r)).1) ∧ STt X W p (fun r => (tru (m r)).2) := ⟨h, st_tru hp h⟩

/-! ### the cases -/
variable {x y z : Expr} {ma mb md : Ev → M Vl} {ta tb td : Ev → M Bool} {pos : Pos}
theorem se_bin (w : Wd X c C W) (o : Bop) (ha : SE X W x ma) (hb : SE X W y mb) : SE X W (.BinOp x o.py y pos) (fun r => bnd (ma r) fun u => bnd (mb r) fun v => look fun st => binM o st u v) := by
  intro Z al r σ G H st Q en hs h
  refine rdE_of (pe_op (op_bin o) rdE_pe rdE_pe) ?_
  refine ha Z al r σ G H st _ en hs (h.bnd.mono fun u st1 G1 H1 e1 s1 h1 v rv => ?_)
  refine hb Z al r σ G1 H1 st1 _ (en.step e1) s1 (h1.bnd.mono fun u2 st2 G2 H2 e2 s2 h2 v2 rv2 => ?_)
  obtain ⟨zv, ez, hz⟩ := h2.look
  exact ⟨G2, st2, u, u2, zv, ez, s2, rv.ext e2, rv2, fun v' G' H' e s r' => hz G' H' e s v' (.inl r')⟩
theorem se_neg (ha : SE X W x ma) : SE X W (.UnaryOp .USub x pos) (fun r => bnd (ma r) fun x => opt (match x with | .int i => some (.int (-i)) | _ => none)) := by
  intro Z al r σ G H st Q en hs h
  refine rdE_of (pe_un un_neg rdE_pe) ?_
  refine ha Z al r σ G H st _ en hs (h.bnd.mono fun u st1 G1 H1 e1 s1 h1 v rv => ?_)
  obtain ⟨zv, ez, hz⟩ := h1.opt s1
  split at ez
  · cases ez
    cases rb_int rv
    exact ⟨_, rfl, hz _ (.inl (.int _))⟩
  · cases ez
theorem un_not : UnR X (unaryOp .Not) (fun x H Q => ∃ k, TruV X.K x H k ∧ Q (.bl !k) H) := by
  intro pins s σ H x v Q I rx ⟨k, e, q⟩
  refine PyProof.Rows.not_of (thn (tru_ok pins s σ H x v (fun b H' => Q (.bl !b) H') I rx ⟨k, e, q⟩) fun b s' ⟨H', I', q'⟩ => ?_)
  exact ⟨.bl !b, H', I', rfl, q'⟩
theorem se_nt (ha : SE X W x ma) : SE X W (.UnaryOp .Not x pos) (fun r => bnd (ma r) fun x => look fun st => (truM st x).map fun b => .bl !b) := by
  intro Z al r σ G H st Q en hs h
  refine rdE_of (pe_un un_not rdE_pe) ?_
  refine ha Z al r σ G H st _ en hs (h.bnd.mono fun u st1 G1 H1 e1 s1 h1 v rv => ?_)
  obtain ⟨zv, ez, hz⟩ := h1.look
  cases e : truM st1 u with
  | none => rw [e] at ez; cases ez
  | some b => rw [e] at ez; cases ez; exact ⟨b, tru_of e s1 rv, hz _ _ .refl s1 _ (.inl (.bl _))⟩
theorem st_nt (ha : STt X W x ta) : STt X W (.UnaryOp .Not x pos) (fun r => bnd (ta r) fun b => ret !b) := by
  intro Z al r σ G H st Q en hs h
  refine rdT_of (pt_not rdT_pt) ?_
  exact ha Z al r σ G H st _ en hs (h.bnd.mono fun b st1 G1 H1 e1 s1 h1 => h1.ret s1)
theorem se_and {l : List Expr} (ha : SE X W x ma) (hb : SE X W (.BoolOp .And (y :: l) pos) mb) : SE X W (.BoolOp .And (x :: y :: l) pos) (fun r => bnd (ma r) fun x => match x with
    | .bl true => mb r
    | .bl false => ret (.bl false)
    | _ => bad) := by
  intro Z al r σ G H st Q en hs h
  refine rdE_of (pe_and rdE_pe rdE_pe) ?_
  refine ha Z al r σ G H st _ en hs (h.bnd.mono fun u st1 G1 H1 e1 s1 h1 v rv => ?_)
  split at h1
  · cases rb_bl rv
    exact ⟨true, rfl, hb Z al r σ G1 H1 st1 _ (en.step e1) s1 h1⟩
  · cases rb_bl rv
    exact ⟨false, rfl, h1.ret s1 _ (.inl (.bl _))⟩
  · exact h1.elim
theorem se_or {l : List Expr} (ha : SE X W x ma) (hb : SE X W (.BoolOp .Or (y :: l) pos) mb) : SE X W (.BoolOp .Or (x :: y :: l) pos) (fun r => bnd (ma r) fun x => match x with
    | .bl true => ret (.bl true)
    | .bl false => mb r
    | _ => bad) := by
  intro Z al r σ G H st Q en hs h
  refine rdE_of (pe_or rdE_pe rdE_pe) ?_
  refine ha Z al r σ G H st _ en hs (h.bnd.mono fun u st1 G1 H1 e1 s1 h1 v rv => ?_)
  split at h1
  · cases rb_bl rv
    exact ⟨true, rfl, h1.ret s1 _ (.inl (.bl _))⟩
  · cases rb_bl rv
    exact ⟨false, rfl, hb Z al r σ G1 H1 st1 _ (en.step e1) s1 h1⟩
  · exact h1.elim
theorem se_one {op : BoolOp} (ha : SE X W x ma) : SE X W (.BoolOp op [x] pos) ma := fun Z al r σ G H st Q en hs h => rdE_of (pe_one rdE_pe) (ha Z al r σ G H st Q en hs h)
theorem st_and1 (ha : STt X W x ta) : STt X W (.BoolOp .And [x] pos) ta := fun Z al r σ G H st Q en hs h => rdT_of (pw_and1 rdT_pt).pt (ha Z al r σ G H st Q en hs h)
theorem st_or1 (ha : STt X W x ta) : STt X W (.BoolOp .Or [x] pos) ta := fun Z al r σ G H st Q en hs h => rdT_of (pw_or1 rdT_pt).pt (ha Z al r σ G H st Q en hs h)
theorem pw_bool {op : BoolOp} {l : List Expr} {t : TT} (h : PT X (.BoolOp op l pos) t) : PW X (.BoolOp op l pos) t := ⟨fun wh pins s σ H Q I q => h.run pins s σ H Q I q⟩
theorem st_and {l : List Expr} (ha : STt X W x ta) (hb : STt X W (.BoolOp .And (y :: l) pos) tb) : STt X W (.BoolOp .And (x :: y :: l) pos) (fun r => bnd (ta r) fun k => if k then tb r else ret false) := by
  intro Z al r σ G H st Q en hs h
  refine rdT_of (pw_and rdT_pt (pw_bool rdT_pt)).pt ?_
  refine ha Z al r σ G H st _ en hs (h.bnd.mono fun u st1 G1 H1 e1 s1 h1 => ?_)
  cases u with
  | true => exact hb Z al r σ G1 H1 st1 _ (en.step e1) s1 h1
  | false => exact h1.ret s1
theorem st_or {l : List Expr} (ha : STt X W x ta) (hb : STt X W (.BoolOp .Or (y :: l) pos) tb) : STt X W (.BoolOp .Or (x :: y :: l) pos) (fun r => bnd (ta r) fun k => if k then ret true else tb r) := by
  intro Z al r σ G H st Q en hs h
  refine rdT_of (pw_or rdT_pt (pw_bool rdT_pt)).pt ?_
  refine ha Z al r σ G H st _ en hs (h.bnd.mono fun u st1 G1 H1 e1 s1 h1 => ?_)
  cases u with
  | false => exact hb Z al r σ G1 H1 st1 _ (en.step e1) s1 h1
  | true => exact h1.ret s1
theorem cmp_step {o : Cop} {F : Bool → Sto → Gh → Hp → Prop} {r : Ev} {σ : L2.St} {Z : Fz} {al : Nat → Option Addr} {G : Gh} {H : Hp} {st : Sto} {R : V → V → Hp → Prop} (ha : SE X W x ma) (hb : SE X W y mb) (en : EnvR X.K X.mg Z al G H r σ) (hs : StR X.K X.mg G H st)
    (h : Cov X.K X.mg (WE W σ) G H ((bnd (ma r) fun u => bnd (mb r) fun v => look fun st => cmpA o st u v) st) F)
    (k : ∀ G2 H2 st2 u u2 v v2 b, cmpA o st2 u u2 = some b → StR X.K X.mg G2 H2 st2 → RB X.K X.mg G2 H2 u v → RB X.K X.mg G2 H2 u2 v2 → F b st2 G2 H2 → R v v2 H2) : rdE X x σ H fun v H1 => rdE X y σ H1 fun v2 H2 => R v v2 H2 := by
  refine ha Z al r σ G H st _ en hs (h.bnd.mono fun u st1 G1 H1 e1 s1 h1 v rv => ?_)
  refine hb Z al r σ G1 H1 st1 _ (en.step e1) s1 (h1.bnd.mono fun u2 st2 G2 H2 e2 s2 h2 v2 rv2 => ?_)
  obtain ⟨b, eb, hb⟩ := h2.look
  exact k G2 H2 st2 u u2 v v2 b eb s2 (rv.ext e2) rv2 (hb G2 H2 .refl s2)
theorem both_cmp (w : Wd X c C W) (o : Cop) (ha : SE X W x ma) (hb : SE X W y mb) (hn : noSet y = true) :
    SE X W (.Compare x [o.py] [y] pos) (fun r => (tst (bnd (ma r) fun u => bnd (mb r) fun v => look fun st => cmpA o st u v)).1) ∧
      STt X W (.Compare x [o.py] [y] pos) (fun r => (tst (bnd (ma r) fun u => bnd (mb r) fun v => look fun st => cmpA o st u v)).2) := by
  constructor
  · intro Z al r σ G H st Q en hs h
    refine rdE_of (pe_cmpR (op_cmpA w.hu o) rdE_pe rdE_pe (noSet_mark hn)) ?_
    refine cmp_step ha hb en hs (Cov.bnd h) fun G2 H2 st2 u u2 v v2 b eb s2 rv rv2 q => ?_
    exact ⟨G2, st2, u, u2, b, eb, s2, rv, rv2, q.ret s2 _ (.inl (.bl b))⟩
  · intro Z al r σ G H st Q en hs h
    refine rdT_of (pt_cmpR (op_cmpA w.hu o) rdE_pe rdE_pe (noSet_mark hn)) ?_
    refine cmp_step ha hb en hs h fun G2 H2 st2 u u2 v v2 b eb s2 rv rv2 q => ?_
    exact ⟨G2, st2, u, u2, b, eb, s2, rv, rv2, b, rfl, q⟩
theorem chn_step (w : Wd X c C W) {o o' : Cop} {F : Bool → Sto → Gh → Hp → Prop} {r : Ev} {σ : L2.St} {Z : Fz} {al : Nat → Option Addr} {G : Gh} {H : Hp} {st : Sto} {Q : VK} (ha : SE X W x ma) (hb : SE X W y mb) (hd : SE X W z md) (en : EnvR X.K X.mg Z al G H r σ) (hs : StR X.K X.mg G H st)
    (h : Cov X.K X.mg (WE W σ) G H ((bnd (ma r) fun u => bnd (mb r) fun v => bnd (look fun st => cmpA o st u v) fun k => if k then bnd (md r) fun z => look fun st => cmpA o' st v z else ret false) st) F)
    (k : ∀ b st2 G2 H2, StR X.K X.mg G2 H2 st2 → F b st2 G2 H2 → Q (.bl b) H2) : tChain (rCmpA X.K X.mg o) (rCmpA X.K X.mg o') (rdE X x) (rdE X y) (rdE X z) σ H Q := by
  refine ha Z al r σ G H st _ en hs (h.bnd.mono fun u st1 G1 H1 e1 s1 h1 v rv => ?_)
  refine hb Z al r σ G1 H1 st1 _ (en.step e1) s1 (h1.bnd.mono fun u2 st2 G2 H2 e2 s2 h2 v2 rv2 => ?_)
  obtain ⟨b, eb, hb⟩ := h2.bnd.look
  refine ⟨G2, st2, u, u2, b, eb, s2, rv.ext e2, rv2, b, rfl, ?_⟩
  have h3 := hb G2 H2 .refl s2
  cases b with
  | false => exact k _ _ _ _ s2 (h3.ret s2)
  | true =>
    refine hd Z al r σ G2 H2 st2 _ ((en.step e1).step e2) s2 (h3.bnd.mono fun u3 st3 G3 H3 e3 s3 h4 v3 rv3 => ?_)
    obtain ⟨b, eb, hb⟩ := h4.look
    exact ⟨G3, st3, u2, u3, b, eb, s3, rv2.ext e3, rv3, k _ _ _ _ s3 (hb G3 H3 .refl s3)⟩
theorem both_chn (w : Wd X c C W) (o o' : Cop) (ha : SE X W x ma) (hb : SE X W y mb) (hd : SE X W z md) (hn : noSet z = true) :
    SE X W (.Compare x [o.py, o'.py] [y, z] pos) (fun r => (tst (bnd (ma r) fun u => bnd (mb r) fun v => bnd (look fun st => cmpA o st u v) fun k => if k then bnd (md r) fun z => look fun st => cmpA o' st v z else ret false)).1) ∧
      STt X W (.Compare x [o.py, o'.py] [y, z] pos) (fun r => (tst (bnd (ma r) fun u => bnd (mb r) fun v => bnd (look fun st => cmpA o st u v) fun k => if k then bnd (md r) fun z => look fun st => cmpA o' st v z else ret false)).2) := by
  have hm : lastMarks [o.py, o'.py] [y, z] = false := noSet_mark hn
  constructor
  · intro Z al r σ G H st Q en hs h
    refine rdE_of (pe_chain (op_cmpA w.hu o) (op_cmpA w.hu o') rdE_pe rdE_pe rdE_pe hm) ?_
    exact chn_step w ha hb hd en hs (Cov.bnd h) fun b st2 G2 H2 s2 q => q.ret s2 _ (.inl (.bl b))
  · intro Z al r σ G H st Q en hs h
    refine rdT_of (pt_chain (op_cmpA w.hu o) (op_cmpA w.hu o') rdE_pe rdE_pe rdE_pe hm) ?_
    exact chn_step w ha hb hd en hs h fun b st2 G2 H2 s2 q => ⟨b, rfl, q⟩
theorem se_ite (ht : STt X W z td) (ha : SE X W x ma) (hb : SE X W y mb) : SE X W (.IfExp z x y pos) (fun r => bnd (td r) fun k => if k then ma r else mb r) := by
  intro Z al r σ G H st Q en hs h
  refine rdE_of (pe_ifExp rdT_pt rdE_pe rdE_pe) ?_
  refine ht Z al r σ G H st _ en hs (h.bnd.mono fun u st1 G1 H1 e1 s1 h1 => ?_)
  cases u with
  | true => exact ha Z al r σ G1 H1 st1 _ (en.step e1) s1 h1
  | false => exact hb Z al r σ G1 H1 st1 _ (en.step e1) s1 h1
theorem st_ite (ht : STt X W z td) (ha : STt X W x ta) (hb : STt X W y tb) : STt X W (.IfExp z x y pos) (fun r => bnd (td r) fun k => if k then ta r else tb r) := by
  intro Z al r σ G H st Q en hs h pins s I
  show wpAny _ _ (do if ← isTrue z X.env (eval z X.env) then isTrue x X.env (eval x X.env) else isTrue y X.env (eval y X.env)) _ _ _
  refine PySem.wpAny_bind ?_
  refine thn (ht Z al r σ G H st (fun b H1 => if b = true then rdT X x σ H1 Q else rdT X y σ H1 Q) en hs (h.bnd.mono fun u st1 G1 H1 e1 s1 h1 => ?_) pins s I) fun b s1 ⟨H1, I1, q1⟩ => ?_
  · cases u with
    | true => exact ha Z al r σ G1 H1 st1 _ (en.step e1) s1 h1
    | false => exact hb Z al r σ G1 H1 st1 _ (en.step e1) s1 h1
  · cases b with
    | true => exact q1 pins s1 I1
    | false => exact q1 pins s1 I1
theorem se_idx (w : Wd X c C W) (ha : SE X W x ma) (hb : SE X W y mb) (hn : isSlc y = false) : SE X W (.Subscript x y pos) (fun r => bnd (ma r) fun u => bnd (mb r) fun v => look fun st => idxM st u v) := by
  intro Z al r σ G H st Q en hs h
  refine rdE_of (pe_ix (ix_all (by have := w.hu; omega)) rdE_pe rdE_pe (slc_plain hn)) ?_
  refine ha Z al r σ G H st _ en hs (h.bnd.mono fun u st1 G1 H1 e1 s1 h1 v rv => ?_)
  refine hb Z al r σ G1 H1 st1 _ (en.step e1) s1 (h1.bnd.mono fun u2 st2 G2 H2 e2 s2 h2 v2 rv2 => ?_)
  obtain ⟨zv, ez, hz⟩ := h2.look
  exact ⟨G2, st2, u, u2, zv, ez, s2, rv.ext e2, rv2, fun v' G' H' e s r' => hz G' H' e s v' (.inl r')⟩
theorem se_slc {l u : Option Expr} {ml mu : Ev → M (Option Int)} {q2 : Pos} (ha : SE X W x ma) (hl : SO X W l ml) (hu : SO X W u mu) : SE X W (.Subscript x (.Slice l u none q2) pos) (fun r => bnd (ma r) fun x => bnd (ml r) fun l => bnd (mu r) fun h => look fun st => slcM st x l h) := by
  intro Z al r σ G H st Q en hs h
  refine rdE_of (pe_slice sl_all rdE_pe rdO_po rdO_po) ?_
  refine ha Z al r σ G H st _ en hs (h.bnd.mono fun u st1 G1 H1 e1 s1 h1 v rv => ?_)
  refine hl Z al r σ G1 H1 st1 _ (en.step e1) s1 (h1.bnd.mono fun lo st2 G2 H2 e2 s2 h2 => ?_)
  refine hu Z al r σ G2 H2 st2 _ ((en.step e1).step e2) s2 (h2.bnd.mono fun hi st3 G3 H3 e3 s3 h3 => ?_)
  obtain ⟨zv, ez, hz⟩ := h3.look
  exact ⟨G3, st3, _, zv, ez, s3, rv.ext (e2.trans e3), fun v' G' H' e s r' => hz G' H' e s v' (.inl r')⟩
theorem se_rev {k : Nat} {p1 p2 p3 : Pos} (ha : SE X W x ma) : SE X W (.Subscript x (.Slice none none (some (.UnaryOp .USub (.Constant (.int 1) k p1) p2)) p3) pos) (fun r => bnd (ma r) fun x => look fun st => revM st x) := by
  intro Z al r σ G H st Q en hs h
  refine rdE_of (pe_rev rdE_pe) ?_
  refine ha Z al r σ G H st _ en hs (h.bnd.mono fun u st1 G1 H1 e1 s1 h1 v rv => ?_)
  obtain ⟨zv, ez, hz⟩ := h1.look
  exact ⟨G1, st1, u, zv, ez, s1, rv, fun v' G' H' e s r' => hz G' H' e s v' (.inl r')⟩
/-- lists of arguments -/
theorem ses_nil : SEs X W [] (fun _ => ret []) := fun Z al r σ G H st Q en hs h => rdA_of pa_nil (h.ret hs _ .nil)
theorem ses_cons {l : List Expr} {ms : Ev → M (List Vl)} (hx : isStar x = false) (ha : SE X W x ma) (hb : SEs X W l ms) : SEs X W (x :: l) (fun r => bnd (ma r) fun u => bnd (ms r) fun us => ret (u :: us)) := by
  intro Z al r σ G H st Q en hs h
  refine rdA_of (pa_cons rdE_pe rdA_pa (star_cons hx)) ?_
  refine ha Z al r σ G H st _ en hs (h.bnd.mono fun u st1 G1 H1 e1 s1 h1 v rv => ?_)
  refine hb Z al r σ G1 H1 st1 _ (en.step e1) s1 (h1.bnd.mono fun us st2 G2 H2 e2 s2 h2 vs rvs => ?_)
  exact h2.ret s2 _ (.cons (rv.ext e2) rvs)
theorem se_tup {l : List Expr} {k : Nat} {ms : Ev → M (List Vl)} (hb : SEs X W l ms) : SE X W (.Tuple l k pos) (fun r => bnd (ms r) fun xs => if xs.length ≤ sizeLine ∧ xs.all notBor then ret (.tup xs) else bad) := by
  intro Z al r σ G H st Q en hs h
  refine rdE_of (pe_tup rdA_pa) ?_
  refine hb Z al r σ G H st _ en hs (h.bnd.mono fun us st1 G1 H1 e1 s1 h1 vs rvs => ?_)
  split at h1
  · rename_i hc
    have rv := rvs.rvs hc.2
    refine ⟨by rw [← rvs.length]; exact hc.1, fun p hp => ?_⟩
    have e := ext_new (G := G1) (o := .tup vs) hp
    exact h1 _ _ e (s1.new hp) _ (.inl (.tup (stT_new s1 hp) (rv.ext e)))
  · exact h1.elim
theorem se_blt (w : Wd X c C W) (f : Bf) {l : List Expr} {q : Pos} {ms : Ev → M (List Vl)} (hg : gnB c f.py = true) (hx : noStars (x :: l) = true) (hb : SEs X W (x :: l) ms) :
    SE X W (.Call (.Name f.py q) (x :: l) [] pos) (fun r => bnd (ms r) fun xs => look fun st => bltM f st xs) := by
  intro Z al r σ G H st Q en hs h
  obtain ⟨h1, h2, h3⟩ := w.gn hg
  have hx' := hx
  have hx1 : isStar x = false ∧ noStars l = true := by
    have : (!isStar x && noStars l) = true := hx
    rw [Bool.and_eq_true, Bool.not_eq_true'] at this
    exact this
  have hmn : X.mg f.py = none := w.bl _ (by cases f <;> decide)
  have pe : PE X (.Call (.Name f.py q) (x :: l) [] pos) (tCB (rBlt X.K X.mg f) (rdA X (x :: l))) := by
    have cr := blt_ok w.ar f
    have hv := f.boot
    revert cr hv h1 h2 h3 hmn
    generalize rBlt X.K X.mg f = rr
    generalize f.py = n
    intro h1 h2 h3 hmn cr hv
    cases hf : f.val with
    | builtin id => rw [hf] at cr hv; exact pe_callB cr h1 hmn hv rdA_pa h3 h2 (star_cons hx1.1) (noStars_any hx1.2)
    | type T => rw [hf] at cr hv; exact pe_callTy cr h1 hmn hv rdA_pa h3 h2 (star_cons hx1.1) (noStars_any hx1.2)
    | _ => exfalso; revert hf; cases f <;> (intro hf; cases hf)
  refine rdE_of pe ?_
  refine hb Z al r σ G H st _ en hs (h.bnd.mono fun us st1 G1 H1 e1 s1 h1 vs rvs => ?_)
  obtain ⟨zv, ez, hz⟩ := h1.look
  exact ⟨G1, st1, us, zv, ez, s1, rvs, fun v' G' H' e s r' => hz G' H' e s v' (.inl r')⟩
theorem se_txt (f : Tf) {l : List Expr} {ap : Pos} {ms : Ev → M (List Vl)} (ha : SE X W x ma) (hx : noStars (y :: l) = true) (hn : (y :: l).length < 29) (hc : nc0 x = true) (hl : (ap.endLine == pos.line) = true) (hb : SEs X W (y :: l) ms) :
    SE X W (.Call (.Attribute x f.py ap) (y :: l) [] pos) (fun r => bnd (ma r) fun x => bnd (opt (strOf x)) fun z => bnd (ms r) fun xs => look fun st => txtM f st (.str z) xs) := by
  intro Z al r σ G H st Q en hs h
  have hx1 : isStar y = false ∧ noStars l = true := by
    have : (!isStar y && noStars l) = true := hx
    rw [Bool.and_eq_true, Bool.not_eq_true'] at this
    exact this
  refine rdE_of (pe_bm PySem.F.plainAttrs_str f.slot f.ty (txt_ok f) rdE_pe rdA_pa (nc0_base hc) (noStars_few hx hn) hl (star_cons hx1.1) (noStars_any hx1.2)) ?_
  refine ha Z al r σ G H st _ en hs (h.bnd.mono fun u st1 G1 H1 e1 s1 h1 v rv => ?_)
  obtain ⟨zs, ez, h2⟩ := h1.bnd.opt s1
  cases u with
  | str zz =>
    cases ez
    cases rb_str rv
    refine ⟨rfl, ?_⟩
    refine hb Z al r σ G1 H1 st1 _ (en.step e1) s1 (h2.bnd.mono fun us st2 G2 H2 e2 s2 h3 vs rvs => ?_)
    obtain ⟨zv, ez, hz⟩ := h3.look
    exact ⟨G2, st2, _, us, zv, ez, s2, .inl (.str _), rvs, fun v' G' H' e s r' => hz G' H' e s v' (.inl r')⟩
  | _ => cases ez
theorem se_txt0 (f : Tf) {ap : Pos} (ha : SE X W x ma) (hc : nc0 x = true) (hl : (ap.endLine == pos.line) = true) :
    SE X W (.Call (.Attribute x f.py ap) [] [] pos) (fun r => bnd (ma r) fun x => bnd (opt (strOf x)) fun z => bnd (ret []) fun xs => look fun st => txtM f st (.str z) xs) := by
  intro Z al r σ G H st Q en hs h
  refine rdE_of (pe_bm0 PySem.F.plainAttrs_str f.slot f.ty (txt_ok f) rdE_pe (nc0_base hc) hl) ?_
  refine ha Z al r σ G H st _ en hs (h.bnd.mono fun u st1 G1 H1 e1 s1 h1 v rv => ?_)
  obtain ⟨zs, ez, h2⟩ := h1.bnd.opt s1
  cases u with
  | str zz =>
    cases ez
    cases rb_str rv
    refine ⟨rfl, ?_⟩
    have h3 : Cov X.K X.mg (WE W σ) G1 H1 (look (fun st => txtM f st (.str zs) []) st1) _ := h2
    obtain ⟨zv, ez, hz⟩ := h3.look
    exact ⟨G1, st1, _, [], zv, ez, s1, .inl (.str _), .nil, fun v' G' H' e s r' => hz G' H' e s v' (.inl r')⟩
  | _ => cases ez
end
def msOf (C : Ca) : Es → List (Ev → M Vl)
  | .nil => []
  | .cons e es => (fun r => (evB C e r).1) :: msOf C es
def seqMs : List (Ev → M Vl) → Ev → M (List Vl)
  | [], _ => ret []
  | m :: ms, r => bnd (m r) fun x => bnd (seqMs ms r) fun xs => ret (x :: xs)
theorem evEs_eq (C : Ca) (r : Ev) : ∀ es, evEs C es r = seqMs (msOf C es) r
  | .nil => rfl
  | .cons e es => by
    show bnd ((evB C e r).1) (fun x => bnd (evEs C es r) fun xs => ret (x :: xs)) = bnd ((evB C e r).1) (fun x => bnd (seqMs (msOf C es) r) fun xs => ret (x :: xs))
    rw [evEs_eq C r es]
inductive AllSE (X : Cx) (W : WX) : List Expr → List (Ev → M Vl) → Prop
  | nil : AllSE X W [] []
  | cons {e : Expr} {es : List Expr} {m : Ev → M Vl} {ms : List (Ev → M Vl)} : SE X W e m → AllSE X W es ms → AllSE X W (e :: es) (m :: ms)
section
variable {X : Cx} {c : Sc} {C : Ca} {W : WX} {x y z : Expr} {ma mb md : Ev → M Vl} {ta tb td : Ev → M Bool} {pos : Pos}
theorem ses_all : ∀ {l : List Expr} {ms : List (Ev → M Vl)}, AllSE X W l ms → noStars l = true → SEs X W l (seqMs ms)
  | _, _, .nil, _ => ses_nil
  | _, _, @AllSE.cons _ _ e es m ms h t, hn => by
    have hn : (!isStar e && noStars es) = true := hn
    rw [Bool.and_eq_true, Bool.not_eq_true'] at hn
    exact ses_cons hn.1 h (ses_all t hn.2)

/-- a call, by what is done with its end -/
theorem cal_run (w : Wd X c C W) {f : Str} {l : List Expr} {q : Pos} {ms : List (Ev → M Vl)} (hh : C.has f = true) (hg : gnB c f = true) (hx : noStars l = true) (ha : AllSE X W l ms)
    {Z : Fz} {al : Nat → Option Addr} {r : Ev} {σ : L2.St} {G : Gh} {H : Hp} {st : Sto} {Q : VK} (en : EnvR X.K X.mg Z al G H r σ) (hs : StR X.K X.mg G H st)
    (h : Cov X.K X.mg (WE W σ) G H (seqMs ms r st) (fun xs st1 G1 H1 => Ext G H G1 H1 → StR X.K X.mg G1 H1 st1 → Cov X.K X.mg (WE W σ) G1 H1 (C.call f xs st1) (fun r st' G' H' => ∀ v, RR X.K X.mg H1 G' H' r v → Q v H'))) :
    rdE X (.Call (.Name f q) l [] pos) σ H Q := by
  obtain ⟨h1, h2, h3⟩ := w.gn hg
  have cr := w.cal X W .refl w.tk
  cases l with
  | nil =>
    cases ha
    exact rdE_of (cr.go0 f q pos hh h1 h2) ⟨G, st, [], hs, .nil, h G H .refl hs .refl hs⟩
  | cons e l =>
    refine rdE_of (cr.go f q pos e l _ hh h1 h2 hx rdA_pa) ?_
    refine ses_all ha hx Z al r σ G H st _ en hs (h.mono fun us st1 G1 H1 e1 s1 h1 vs rvs => ?_)
    exact ⟨G1, st1, us, s1, rvs, h1 e1 s1⟩
theorem se_cal (w : Wd X c C W) {f : Str} {l : List Expr} {q : Pos} {ms : List (Ev → M Vl)} (hg : gnB c f = true) (hx : noStars l = true) (ha : AllSE X W l ms) :
    SE X W (.Call (.Name f q) l [] pos) (fun r => if C.has f then bnd (seqMs ms r) fun xs => bnd (C.call f xs) endV else bad) := by
  intro Z al r σ G H st Q en hs h
  by_cases hh : C.has f = true
  · simp only [if_pos hh] at h
    refine cal_run w hh hg hx ha en hs (h.bnd.mono fun us st1 G1 H1 e1 s1 h1 _ _ => ?_)
    refine h1.bnd0.mono fun rt st2 G2 H2 e2 s2 h2 v rr => ?_
    cases rt with
    | vl x =>
      have h2' : Cov X.K X.mg (WE W σ) G2 H2 (okV x st2) _ := Cov.ext h2 e2
      unfold okV at h2'
      split at h2'
      · exact h2'.ret s2 v (.inl rr)
      · exact h2'.elim
    | fr o =>
      have h2' : Cov X.K X.mg (WE W σ) G1 H1 (opt o.toVl st2) _ := h2
      cases ho : o.toVl with
      | none => rw [ho] at h2'; exact h2'.elim
      | some x =>
        rw [ho] at h2'
        obtain ⟨G3, e3, s3, r3⟩ := frozen_ok ho e2 s2 rr
        exact h2' G3 H2 e3 s3 v (.inl r3)
  · simp only [if_neg hh] at h
    exact h.elim
theorem sf_cal (w : Wd X c C W) {f : Str} {l : List Expr} {q : Pos} {ms : List (Ev → M Vl)} (hg : gnB c f = true) (hx : noStars l = true) (ha : AllSE X W l ms) :
    SF X W (.Call (.Name f q) l [] pos) (fun r => if C.has f then bnd (seqMs ms r) fun xs => bnd (C.call f xs) endF else bad) := by
  intro Z al r σ G H st Q en hs h
  by_cases hh : C.has f = true
  · simp only [if_pos hh] at h
    refine cal_run w hh hg hx ha en hs (h.bnd.mono fun us st1 G1 H1 e1 s1 h1 _ _ => ?_)
    refine h1.bnd.mono fun rt st2 G2 H2 e2 s2 h2 v rr => ?_
    cases rt with
    | vl x => exact h2.elim
    | fr o =>
      have h2' : Cov X.K X.mg (WE W σ) G2 H2 (ret o st2) _ := h2
      exact h2'.ret s2 v (FR.back rr e1)
  · simp only [if_neg hh] at h
    exact h.elim
/-- a new thing, frozen, or put into the store -/
theorem se_fr {p : Expr} {mf : Ev → M Ob} (h : SF X W p mf) : SE X W p (fun r => bnd (mf r) frozen) := by
  intro Z al r σ G H st Q en hs h1
  refine h Z al r σ G H st _ en hs (h1.bnd0.mono fun o st2 G2 H2 e2 s2 h2 v fr => ?_)
  have h2' : Cov X.K X.mg (WE W σ) G H (opt o.toVl st2) _ := h2
  cases ho : o.toVl with
  | none => rw [ho] at h2'; exact h2'.elim
  | some x =>
    rw [ho] at h2'
    obtain ⟨G3, e3, s3, r3⟩ := frozen_ok ho e2 s2 fr
    exact h2' G3 H2 e3 s3 v (.inl r3)
theorem se_mko {p : Expr} {mf : Ev → M Ob} (h : SF X W p mf) : SE X W p (fun r => bnd (mf r) alloc) := by
  intro Z al r σ G H st Q en hs h1
  refine h Z al r σ G H st _ en hs (h1.bnd0.mono fun o st2 G2 H2 e2 s2 h2 v fr => ?_)
  obtain ⟨G3, e3, s3, r3⟩ := alloc_ok e2 s2 fr
  exact h2 G3 H2 e3 s3 v (.inl r3)
/-- slices' parts -/
theorem so_non : SO X W none (fun _ => ret none) := fun Z al r σ G H st Q en hs h => rdO_of po_none (h.ret hs)
theorem so_som (ha : SE X W x ma) : SO X W (some x) (fun r => bnd (ma r) fun x => opt (match x with | .int i => some (some i) | _ => none)) := by
  intro Z al r σ G H st Q en hs h
  refine rdO_of (po_some rdE_pe) ?_
  refine ha Z al r σ G H st _ en hs (h.bnd.mono fun u st1 G1 H1 e1 s1 h1 v rv => ?_)
  obtain ⟨zs, ez, h2⟩ := h1.opt s1
  split at ez
  · cases ez
    cases rb_int rv
    exact ⟨_, rfl, h2⟩
  · cases ez

/-! ### new things -/
theorem sf_lst {l : List Expr} {ms : Ev → M (List Vl)} (hb : SEs X W l ms) : SF X W (.List l pos) (fun r => bnd (ms r) fun xs => if xs.length ≤ sizeLine ∧ xs.all notBor then ret (.lst xs) else bad) := by
  intro Z al r σ G H st Q en hs h
  refine rdE_of (pe_lst rdA_pa) ?_
  refine hb Z al r σ G H st _ en hs (h.bnd.mono fun us st1 G1 H1 e1 s1 h1 vs rvs => ?_)
  split at h1
  · rename_i hc
    have rv := rvs.rvs hc.2
    refine ⟨by rw [← rvs.length]; exact hc.1, fun p hp => ?_⟩
    exact h1 _ _ (ext_more hp) (s1.more hp) _ (FR.back (fr_lst s1 hp rv) e1)
  · exact h1.elim
theorem sf_dnewK : SF X W (.Dict [] [] pos) (fun _ => ret (.dk [])) := by
  intro Z al r σ G H st Q en hs h
  refine rdE_of pe_dnewK fun p hp => ?_
  exact h _ _ (ext_more hp) (hs.more hp) _ (fr_dk hs hp .nil)
theorem sf_dnewT : SF X W (.Dict [] [] pos) (fun _ => ret (.dt [])) := by
  intro Z al r σ G H st Q en hs h
  refine rdE_of pe_dnewT fun p hp => ?_
  exact h _ _ (ext_more hp) (hs.more hp) _ ⟨p, rfl, hp, .inr rfl, hs.nmu hp, .dt upd_same .nil⟩
theorem sf_blt (w : Wd X c C W) (f : Ff) {q : Pos} (hg : gnB c f.py = true) (hx : isStar x = false) (ha : SE X W x ma) :
    SF X W (.Call (.Name f.py q) [x] [] pos) (fun r => bnd (ma r) fun x => look fun st => frM f st x) := by
  intro Z al r σ G H st Q en hs h
  obtain ⟨h1, h2, h3⟩ := w.gn hg
  have hmn : X.mg f.py = none := w.bl _ (by cases f <;> decide)
  have pe : PE X (.Call (.Name f.py q) [x] [] pos) (tCB (rFrm X.K X.mg f) (tCons (rdE X x) tNil)) := by
    have cr := frm_ok w.ar f
    have hv := f.boot
    have pa := pa_cons (rdE_pe (X := X) (p := x)) pa_nil (star_cons hx)
    revert cr hv h1 h2 h3 hmn
    generalize rFrm X.K X.mg f = rr
    generalize f.py = n
    intro h1 h2 h3 hmn cr hv
    cases hf : f.val with
    | builtin id => rw [hf] at cr hv; exact pe_callB cr h1 hmn hv pa h3 h2 (star_cons hx) rfl
    | type T => rw [hf] at cr hv; exact pe_callTy cr h1 hmn hv pa h3 h2 (star_cons hx) rfl
    | _ => exfalso; revert hf; cases f <;> (intro hf; cases hf)
  refine rdE_of pe ?_
  refine ha Z al r σ G H st _ en hs (h.bnd.mono fun u st1 G1 H1 e1 s1 h1 v rv => ?_)
  obtain ⟨zv, ez, hz⟩ := h1.look
  exact ⟨G1, st1, u, v, zv, rfl, ez, s1, rv, fun v' G' H' e s fr => hz G' H' e s v' (FR.back fr e1)⟩
theorem sf_slc {l u : Option Expr} {ml mu : Ev → M (Option Int)} {q2 : Pos} (ha : SE X W x ma) (hl : SO X W l ml) (hu : SO X W u mu) : SF X W (.Subscript x (.Slice l u none q2) pos) (fun r => bnd (ma r) fun x => bnd (ml r) fun l => bnd (mu r) fun h => look fun st => (asList st x).map fun xs => .lst (cutL xs l h)) := by
  intro Z al r σ G H st Q en hs h
  refine rdE_of (pe_slice sl_list rdE_pe rdO_po rdO_po) ?_
  refine ha Z al r σ G H st _ en hs (h.bnd.mono fun u st1 G1 H1 e1 s1 h1 v rv => ?_)
  refine hl Z al r σ G1 H1 st1 _ (en.step e1) s1 (h1.bnd.mono fun lo st2 G2 H2 e2 s2 h2 => ?_)
  refine hu Z al r σ G2 H2 st2 _ ((en.step e1).step e2) s2 (h2.bnd.mono fun hi st3 G3 H3 e3 s3 h3 => ?_)
  obtain ⟨zv, ez, hz⟩ := h3.look
  cases e : asList st3 u with
  | none => rw [e] at ez; cases ez
  | some xs =>
    rw [e] at ez; cases ez
    obtain ⟨a, us, rfl, hq, rs⟩ := asList_ok e s3 (rv.ext (e2.trans e3))
    refine ⟨a, us, rfl, hq, fun p hp => ?_⟩
    exact hz _ _ (ext_more hp) (s3.more hp) _ (FR.back (fr_lst s3 hp (rs.cut lo hi)) ((e1.trans e2).trans e3))
end
section
variable {X : Cx} {c : Sc} {C : Ca} {W : WX} {x y z : Expr} {ma mb : Ev → M Vl} {pos : Pos}
theorem se_atr (w : Wd X c C W) {f : Str} (hn : nc0 x = true) (ha : SE X W x ma) : SE X W (.Attribute x f pos) (fun r => bnd (ma r) fun x => look fun st => atrM C.cls st x f) := by
  intro Z al r σ G H st Q en hs h
  have base := nc0_base (env := X.env) (f := f) hn
  refine rdE_of (pe_erA rdE_pe base) ?_
  refine ha Z al r σ G H st _ en hs (h.bnd.mono fun u st1 G1 H1 e1 s1 h1 v rv => ?_)
  obtain ⟨z, ez, hz⟩ := h1.look
  unfold atrM at ez
  split at ez
  · rename_i n y
    split at ez
    · rename_i ef
      cases ez
      obtain ⟨ef1, ef2, ef3⟩ := ef
      subst ef1
      have rv' := rv.rv rfl
      cases rv' with
      | err hm n1 h1 n2 h2 r =>
        obtain ⟨T1, T2⟩ := w.isa.exc n ef2 ef3 _ hm
        exact ⟨_, _, _, _, _, rfl, T1, T2, h1, h2, by simp [List.lookup], hz G1 H1 .refl s1 _ r.rb⟩
    · cases ez
  · cases ez
theorem mk_run {n : Str} {σ : L2.St} {G1 : Gh} {H1 : Hp} {st1 : Sto} {u : Vl} {v : L2.V} {Q : VK} (s1 : StR X.K X.mg G1 H1 st1) (rv : RB X.K X.mg G1 H1 u v)
    (h : Cov X.K X.mg (WE W σ) G1 H1 (look (fun st => mkX n st u) st1) (fun x st' G' H' => ∀ v, RB X.K X.mg G' H' x v → Q v H')) : rErr X n v H1 Q := by
  obtain ⟨z, ez, hz⟩ := h.look
  unfold mkX at ez
  split at ez
  · rename_i zz e
    split at ez
    · rename_i hc
      cases ez
      exact ⟨G1, st1, u, s1, rv.rv hc.2, ⟨zz, e, hc.1⟩, fun G' H' w e s r => hz G' H' e s w r.rb⟩
    · cases ez
  · cases ez
theorem se_mkx (w : Wd X c C W) {n : Str} {q : Pos} (hg : gnB c n = true) (hx : isStar x = false) (ha : SE X W x ma) : SE X W (.Call (.Name n q) [x] [] pos) (fun r => if C.err n then bnd (ma r) fun x => look fun st => mkX n st x else bad) := by
  intro Z al r σ G H st Q en hs h
  obtain ⟨g1, g2, _⟩ := w.gn hg
  by_cases he : C.err n = true
  · simp only [if_pos he] at h
    refine rdE_of ((w.cal X W .refl w.tk).mkx n q pos x _ he g1 g2 hx rdE_pe) ?_
    exact ha Z al r σ G H st _ en hs (h.bnd.mono fun u st1 G1 H1 e1 s1 h1 v rv => mk_run s1 rv h1)
  · simp only [if_neg he] at h; exact h.elim
theorem se_mkk (w : Wd X c C W) {n : Str} {q kp : Pos} (hg : gnB c n = true) (ha : SE X W x ma) : SE X W (.Call (.Name n q) [] [⟨some (attrOf n), x, kp⟩] pos) (fun r => if C.err n then bnd (ma r) fun x => look fun st => mkX n st x else bad) := by
  intro Z al r σ G H st Q en hs h
  obtain ⟨g1, g2, _⟩ := w.gn hg
  by_cases he : C.err n = true
  · simp only [if_pos he] at h
    refine rdE_of ((w.cal X W .refl w.tk).mkk n q pos kp x _ he g1 g2 rdE_pe) ?_
    exact ha Z al r σ G H st _ en hs (h.bnd.mono fun u st1 G1 H1 e1 s1 h1 v rv => mk_run s1 rv h1)
  · simp only [if_neg he] at h; exact h.elim
end
end LG

set_option Elab.async false
set_option linter.all false
set_option maxRecDepth 100000
set_option maxHeartbeats 4000000
/-! G11: isinstance, displays, what is walked, targets, blocks. -/
namespace LG
open PySem L2
section
variable {X : Cx} {c : Sc} {C : Ca} {W : WX} {x y z : Expr} {ma mb : Ev → M Vl} {pos : Pos}
theorem sf_bin (o : Bop) (ha : SE X W x ma) (hb : SE X W y mb) : SF X W (.BinOp x o.py y pos) (fun r => bnd (ma r) fun u => bnd (mb r) fun v => look fun st => binF o st u v) := by
  intro Z al r σ G H st Q en hs h
  have step : ∀ {R : R2}, (∀ u u2 v v2 ob G1 H1 G2 H2 st2, Ext G H G2 H2 → binF o st2 u u2 = some ob → StR X.K X.mg G2 H2 st2 → RB X.K X.mg G2 H2 u v → RB X.K X.mg G2 H2 u2 v2 → (∀ v' G' H', Ext G2 H2 G' H' → StR X.K X.mg G' H' st2 → FR X.K X.mg H2 G' H' ob v' → Q v' H') → R v v2 H2 Q) → tOp R (rdE X x) (rdE X y) σ H Q := fun {R} k => by
    refine ha Z al r σ G H st _ en hs (h.bnd.mono fun u st1 G1 H1 e1 s1 h1 v rv => ?_)
    refine hb Z al r σ G1 H1 st1 _ (en.step e1) s1 (h1.bnd.mono fun u2 st2 G2 H2 e2 s2 h2 v2 rv2 => ?_)
    obtain ⟨ob, eo, ho⟩ := h2.look
    exact k u u2 v v2 ob G1 H1 G2 H2 st2 (e1.trans e2) eo s2 (rv.ext e2) rv2 fun v' G' H' e s fr => ho G' H' e s v' (FR.back fr (e1.trans e2))
  cases o with
  | add =>
    refine rdE_of (pe_op op_cat rdE_pe rdE_pe) (step fun u u2 v v2 ob G1 H1 G2 H2 st2 e eo s2 rv rv2 g => ?_)
    unfold binF at eo
    simp only at eo
    split at eo
    · rename_i a b e1 e2
      split at eo
      · rename_i hz
        cases eo
        obtain ⟨p, us, rfl, h1, r1⟩ := asLst_ok e1 s2 rv
        obtain ⟨q, ws, rfl, h2, r2⟩ := asLst_ok e2 s2 rv2
        have l1 := r1.length
        have l2 := r2.length
        exact ⟨p, q, us, ws, rfl, rfl, h1, h2, by omega, fun p hp => g _ _ _ (ext_more hp) (s2.more hp) (fr_lst s2 hp (r1.append r2))⟩
      · cases eo
    · cases eo
  | mul =>
    refine rdE_of (pe_op op_rep rdE_pe rdE_pe) (step fun u u2 v v2 ob G1 H1 G2 H2 st2 e eo s2 rv rv2 g => ?_)
    unfold binF at eo
    simp only at eo
    split at eo
    · rename_i a j e1
      split at eo
      · rename_i hz
        cases eo
        obtain ⟨p, us, rfl, h1, r1⟩ := asLst_ok e1 s2 rv
        cases rb_int rv2
        have l1 := r1.length
        exact ⟨p, _, us, rfl, rfl, h1, hz.1, hz.2.1, by rw [← l1]; exact hz.2.2, fun p hp => g _ _ _ (ext_more hp) (s2.more hp) (fr_lst s2 hp (r1.flat _))⟩
      · cases eo
    · cases eo
  | _ => exact rdE_of (pe_op (r := fun _ _ _ _ => False) (by intro _ _ _ _ _ _ _ _ _ _ _ _ q; exact q.elim) rdE_pe rdE_pe) (step fun u u2 v v2 ob G1 H1 G2 H2 st2 e eo s2 rv rv2 g => by cases eo)

/-! ### isinstance -/
theorem cls_mem {n x : Str} {n' : String} (h : (n', x) ∈ ([("str", "str"), ("int", "int"), ("bool", "bool"), ("list", "list"), ("tuple", "tuple"), ("dict", "dict"), ("ValueError", "ValueError")] : List (String × Str))) : bootBuiltins x = some (.type n') ∧ x ∈ bltN := by
  simp only [List.mem_cons, List.not_mem_nil, or_false, Prod.mk.injEq] at h
  rcases h with ⟨rfl, rfl⟩ | ⟨rfl, rfl⟩ | ⟨rfl, rfl⟩ | ⟨rfl, rfl⟩ | ⟨rfl, rfl⟩ | ⟨rfl, rfl⟩ | ⟨rfl, rfl⟩ <;> exact ⟨by decide +kernel, by decide⟩
theorem cls_pe (w : Wd X c C W) {k : Cn} {e : Expr} (h : clsB c k e = true) (ho : okC C.cls k = true) : ∃ v u, CnV X.mg k u ∧ ClsV v u ∧ PE X e (tC v) ∧ isStar e = false := by
  cases e with
  | Name x q =>
    cases k with
    | ty n =>
      have h : (gnB c x && decide ((n, x) ∈ ([("str", "str"), ("int", "int"), ("bool", "bool"), ("list", "list"), ("tuple", "tuple"), ("dict", "dict"), ("ValueError", "ValueError")] : List (String × Str)))) = true := h
      rw [Bool.and_eq_true] at h
      obtain ⟨h1, h2, h3⟩ := w.gn h.1
      obtain ⟨hb, hm⟩ := cls_mem (n := x) (of_decide_eq_true h.2)
      exact ⟨.ty n, .type n, .ty n, .ty n, pe_bltn h1 (w.bl _ hm) hb rfl h3 h2, rfl⟩
    | own n =>
      have h : (gnB c x && decide (n = x)) = true := h
      rw [Bool.and_eq_true] at h
      have e := of_decide_eq_true h.2
      subst e
      obtain ⟨h1, h2, h3⟩ := w.gn h.1
      obtain ⟨D, hD⟩ := w.isa.at_ n (of_decide_eq_true ho)
      exact ⟨.ref D, .ref D, .own hD, .own D, pe_glob h1 hD rfl h2, rfl⟩
  | _ => cases k <;> cases h
inductive CnVs (mg : Str → Option Value) : List Cn → List Value → Prop
  | nil : CnVs mg [] []
  | cons {k : Cn} {ks : List Cn} {u : Value} {us : List Value} : CnV mg k u → CnVs mg ks us → CnVs mg (k :: ks) (u :: us)
def tCs (vs : List V) : TA := fun _ H Q => Q vs H
theorem cls_pes (w : Wd X c C W) : ∀ {ks : List Cn} {es : List Expr}, clsAll c ks es = true → ks.all (okC C.cls) = true → ∃ vs us, CnVs X.mg ks us ∧ Paired ClsV vs us ∧ PA X es (tCs vs)
  | [], [], _, _ => ⟨[], [], .nil, .nil, pa_nil⟩
  | k :: ks, e :: es, h, ho => by
    have h : (clsB c k e && clsAll c ks es) = true := h
    rw [Bool.and_eq_true] at h
    rw [List.all_cons, Bool.and_eq_true] at ho
    obtain ⟨v, u, h1, h2, h3, h4⟩ := cls_pe w h.1 ho.1
    obtain ⟨vs, us, h5, h6, h7⟩ := cls_pes w h.2 ho.2
    refine ⟨v :: vs, u :: us, .cons h1 h5, .cons h2 h6, ?_⟩
    have q := pa_cons h3 h7 (star_cons h4)
    exact ⟨fun pos pins s σ H Q I hq => q.run pos pins s σ H Q I hq⟩
  | [], _ :: _, h, _ => by cases h
  | _ :: _, [], h, _ => by cases h
theorem kit_sub (T : IsaT X.K X.mg C.cls) {t k : Cn} {tv u : Value} {b : Bool} (ht : CnV X.mg t tv) (hk : CnV X.mg k u) (h : subC C.cls t k = some b) : PySem.W.kitOne X.K tv u = some b := by
  cases ht with
  | ty a =>
    cases hk with
    | ty b' => exact kit_ty h
    | @own m D hm =>
      have h : (if a ∈ tyA ∧ m ∈ C.cls then some false else none) = some b := h
      by_cases hc : a ∈ tyA ∧ m ∈ C.cls
      · rw [if_pos hc] at h; cases h; exact T.tyo a hc.1 _ hc.2 _ hm
      · rw [if_neg hc] at h; cases h
  | @own n E hn =>
    cases hk with
    | ty b' =>
      have h : (if n ∈ C.cls ∧ b' ∈ tyB then some false else if n ∈ C.cls ∧ n ∈ errN ∧ b' = "ValueError" then some true else none) = some b := h
      by_cases hc : n ∈ C.cls ∧ b' ∈ tyB
      · rw [if_pos hc] at h; cases h; exact T.oty b' hc.2 _ hc.1 _ hn
      · rw [if_neg hc] at h
        by_cases hd : n ∈ C.cls ∧ n ∈ errN ∧ b' = "ValueError"
        · rw [if_pos hd] at h; cases h
          obtain ⟨d1, d2, d3⟩ := hd
          subst d3
          exact T.ove _ d1 d2 _ hn
        · rw [if_neg hd] at h; cases h
    | @own m D hm =>
      have h : (if n ∈ C.cls ∧ m ∈ C.cls then some (sub2 n m) else none) = some b := h
      by_cases hc : n ∈ C.cls ∧ m ∈ C.cls
      · rw [if_pos hc] at h; cases h; exact T.two _ hc.1 _ hc.2 _ _ hn hm
      · rw [if_neg hc] at h; cases h
theorem kit_isas (T : IsaT X.K X.mg C.cls) {t : Cn} {tv : Value} (ht : CnV X.mg t tv) : ∀ {ks : List Cn} {us : List Value} {b : Bool}, CnVs X.mg ks us → isas t (subC C.cls) ks = some b → PySem.W.kitAny X.K tv us = some b
  | [], _, _, .nil, h => h
  | k :: ks, _, b, .cons h1 h2, h => by
    unfold isas at h
    unfold PySem.W.kitAny
    split at h
    · rename_i e; rw [kit_sub T ht h1 e]; exact h
    · rename_i e; rw [kit_sub T ht h1 e]; exact kit_isas T ht h2 h
    · cases h
theorem CnVs.length {mg : Str → Option Value} : ∀ {ks : List Cn} {us : List Value}, CnVs mg ks us → ks.length = us.length
  | _, _, .nil => rfl
  | _, _, .cons _ t => by rw [List.length_cons, List.length_cons, CnVs.length t]
theorem isi_end {σ : L2.St} {cs : List Cn} {G1 : Gh} {H1 : Hp} {st1 : Sto} {u : Vl} {v : V} {Q : VK} (h : Cov X.K X.mg (WE W σ) G1 H1 (look (fun st => isiM C.cls cs st u) st1) (fun x st' G' H' => ∀ v, RB X.K X.mg G' H' x v → Q v H')) :
    ∃ t b, tyM st1 u = some t ∧ (∀ n, t = .own n → n ∈ C.cls) ∧ isas t (subC C.cls) cs = some b ∧ ∀ G' H', Ext G1 H1 G' H' → StR X.K X.mg G' H' st1 → Q (.bl b) H' := by
  obtain ⟨zv, ez, hz⟩ := h.look
  unfold isiM at ez
  split at ez
  · rename_i t et
    split at ez
    · rename_i hk
      cases eb : isas t (subC C.cls) cs with
      | none => rw [eb] at ez; cases ez
      | some b =>
        rw [eb] at ez; cases ez
        exact ⟨t, b, et, fun n e => by rw [e] at hk; exact of_decide_eq_true hk, eb, fun G' H' e s => hz G' H' e s _ (.inl (.bl b))⟩
    · cases ez
  · cases ez
theorem se_isi (w : Wd X c C W) {cs : List Cn} {q : Pos} {n : Str} (hg : gnB c n = true) (hn : n = "isinstance") (hx : isStar x = false) (hc : clsEs c cs y = true) (ha : SE X W x ma) :
    SE X W (.Call (.Name n q) [x, y] [] pos) (fun r => if cs.all (okC C.cls) ∧ cs.length ≤ 64 then bnd (ma r) fun x => look fun st => isiM C.cls cs st x else bad) := by
  subst hn
  intro Z al r σ G H st Q en hs h
  obtain ⟨h1, h2, h3⟩ := w.gn hg
  have hm := w.bl "isinstance" (by decide)
  have hv : bootBuiltins "isinstance" = some (.builtin "isinstance") := by decide +kernel
  by_cases hok : cs.all (okC C.cls) = true ∧ cs.length ≤ 64
  · simp only [if_pos hok] at h
    have one : ∀ k, cs = [k] → clsB c k y = true → rdE X (.Call (.Name "isinstance" q) [x, y] [] pos) σ H Q := by
      intro k ek hk
      subst ek
      obtain ⟨v, u, k1, k2, k3, k4⟩ := cls_pe w hk (by simpa using hok.1)
      refine rdE_of (pe_callB call_isY h1 hm hv (pa_cons rdE_pe (pa_cons k3 pa_nil (star_cons k4)) (star_cons hx)) h3 h2 (star_cons hx) (by rw [star_cons k4]; rfl)) ?_
      refine ha Z al r σ G H st _ en hs (h.bnd.mono fun u1 st1 G1 H1 e1 s1 h1 v1 rv => ?_)
      obtain ⟨t, b, et, ht, k7, k8⟩ := isi_end (v := v1) h1
      obtain ⟨tv, k5, k6⟩ := tyM_ok w.isa ht et s1 rv
      refine ⟨v1, v, tv, u, b, rfl, k2, k6, ?_, k8 G1 H1 .refl s1⟩
      have kk := kit_isas w.isa k5 (.cons k1 .nil) k7
      unfold PySem.W.kitAny at kk
      split at kk
      · rename_i e; cases kk; exact e
      · rename_i e; cases kk; exact e
      · cases kk
    have many : ∀ es a b, y = .Tuple es a b → clsAll c cs es = true → rdE X (.Call (.Name "isinstance" q) [x, y] [] pos) σ H Q := by
      intro es a b ey hk
      subst ey
      obtain ⟨vs, us, k1, k2, k3⟩ := cls_pes w hk hok.1
      refine rdE_of (pe_callB call_isTY h1 hm hv (pa_cons rdE_pe (pa_cons (pe_tup k3) pa_nil rfl) (star_cons hx)) h3 h2 (star_cons hx) rfl) ?_
      refine ha Z al r σ G H st _ en hs (h.bnd.mono fun u1 st1 G1 H1 e1 s1 h1 v1 rv => ?_)
      obtain ⟨t, b, et, ht, k7, k8⟩ := isi_end (v := v1) h1
      have len : vs.length ≤ sizeLine := by
        have l1 := Paired.length k2
        have l2 := k1.length
        rw [sizeLine_eq]
        omega
      refine ⟨len, fun p hp => ?_⟩
      have ex := ext_new (G := G1) (o := HO.tup vs) hp
      obtain ⟨tv, k5, k6⟩ := tyM_ok w.isa ht et (s1.new hp) (rv.ext ex)
      exact ⟨v1, p, vs, tv, us, b, rfl, upd_same, k2, k6, kit_isas w.isa k5 k1 k7, k8 _ _ ex (s1.new hp)⟩
    cases y with
    | Name x' q' =>
      cases cs with
      | nil => cases hc
      | cons k ks =>
        cases ks with
        | nil => exact one k rfl hc
        | cons _ _ => cases hc
    | Tuple es a b =>
      refine many es a b rfl ?_
      cases cs with
      | nil => exact hc
      | cons k ks => cases ks <;> exact hc
    | _ =>
      cases cs with
      | nil => cases hc
      | cons k ks => cases ks <;> cases hc
  · simp only [if_neg hok] at h
    exact h.elim

/-! ### {'a': .., ..} -/
theorem RVk.put {K : PySem.W.Frag} {mg : Str → Option Value} {G : Gh} {H : Hp} {k : Key} {x : Vl} {v : V} (r : RV K mg G H x v) : ∀ {xs : List (Key × Vl)} {us : List (Key × V)}, RVk K mg G H xs us → RVk K mg G H (putD xs k x) (putK us k v) := by
  intro xs us h
  have hany : ∀ {xs : List (Key × Vl)} {us : List (Key × V)}, RVk K mg G H xs us → (xs.any fun kv => decide (kv.1 = k)) = (us.any fun kv => decide (kv.1 = k)) := by
    intro xs us h
    induction xs generalizing us with
    | nil => cases h; rfl
    | cons p xs ih =>
      cases h with
      | cons r t => rw [List.any_cons, List.any_cons, ih t]
  have hmap : ∀ {xs : List (Key × Vl)} {us : List (Key × V)}, RVk K mg G H xs us → RVk K mg G H (xs.map fun kv => if kv.1 = k then (kv.1, x) else kv) (us.map fun kv => if kv.1 = k then (kv.1, v) else kv) := by
    intro xs us h
    induction xs generalizing us with
    | nil => cases h; exact .nil
    | cons p xs ih =>
      cases h with
      | @cons k' _ _ _ _ r' t =>
        rw [List.map_cons, List.map_cons]
        by_cases e : k' = k
        · simp only [e, if_true]; exact .cons r (ih t)
        · simp only [e, if_false]; exact .cons r' (ih t)
  have happ : ∀ {xs : List (Key × Vl)} {us : List (Key × V)}, RVk K mg G H xs us → RVk K mg G H (xs ++ [(k, x)]) (us ++ [(k, v)]) := by
    intro xs us h
    induction xs generalizing us with
    | nil => cases h; exact .cons r .nil
    | cons p xs ih =>
      cases h with
      | cons r' t => exact .cons r' (ih t)
  unfold putD putK
  rw [hany h]
  split
  · exact hmap h
  · exact happ h
theorem RVk.putAll {K : PySem.W.Frag} {mg : Str → Option Value} {G : Gh} {H : Hp} : ∀ {ys : List (Key × Vl)} {ws : List (Key × V)} {xs : List (Key × Vl)} {us : List (Key × V)}, RVk K mg G H ys ws → RVk K mg G H xs us → RVk K mg G H (putAll xs ys) (mergeK us ws)
  | [], _, _, _, h0, h => by cases h0; exact h
  | (k, y) :: ys, _, xs, us, h0, h => by
    cases h0 with
    | cons r t =>
      have q := RVk.putAll t (RVk.put (k := k) r h)
      exact q
end
end LG

set_option Elab.async false
set_option linter.all false
set_option maxRecDepth 100000
set_option maxHeartbeats 4000000
/-! G12: what is walked, targets, blocks, displays. -/
namespace LG
open PySem L2
/-- a walk over the items xs: from (G1, H1) on; a block's (cm) bears new objects alone -/
def Wk (cm : Bool) (K : PySem.W.Frag) (mg : Str → Option Value) (J : L2.It) (G1 : Gh) (H1 : Hp) (xs : List Vl) : Prop := ∀ (G : Gh) (H : Hp), (if cm = true then Ext G1 H1 G H else Keep G1 H1 G H) →
  (∀ i, xs.length ≤ i → J.stop i H) ∧ ∀ i x, xs[i]? = some x → J.go i H ∧ ∀ v H', J.yld i H v H' → ∃ G', Ext G H G' H' ∧ (∀ st, StR K mg G H st → StR K mg G' H' st) ∧ RV K mg G' H' x v
section
variable {X : Cx} {c : Sc} {C : Ca} {W : WX} {x y z : Expr} {ma mb : Ev → M Vl} {pos : Pos}
def SI (X : Cx) (W : WX) (cm : Bool) (tg p : Expr) (m : Ev → M (List Vl)) : Prop := ∀ (Z : Fz) (al : Nat → Option Addr) (r : Ev) (σ : L2.St) (G : Gh) (H : Hp) (st : Sto) (R : L2.It → Hp → Prop), EnvR X.K X.mg Z al G H r σ → StR X.K X.mg G H st →
  Cov X.K X.mg (WE W σ) G H (m r st) (fun xs st' G' H' => ∀ J, Wk cm X.K X.mg J G' H' xs → R J H') → rdI X tg p σ H R
theorem wk_keep {cm : Bool} {G1 G : Gh} {H1 H : Hp} (h : if cm = true then Ext G1 H1 G H else Keep G1 H1 G H) : Keep G1 H1 G H := by
  cases cm with
  | true => exact Ext.toKeep h
  | false => exact h
theorem wk_list {K : PySem.W.Frag} {mg : Str → Option Value} {cm : Bool} {G1 : Gh} {H1 : Hp} {a : Addr} {xs : List Vl} {us : List V} (h1 : ∀ G H, (if cm = true then Ext G1 H1 G H else Keep G1 H1 G H) → SqL K H a us) (r : RVs K mg G1 H1 xs us) : Wk cm K mg (Itl K a) G1 H1 xs := fun G H e => by
  have k := wk_keep e
  have hq := h1 G H e
  have r' := r.keep k
  refine ⟨fun i hi => ⟨us, hq, by rw [← r.length]; exact hi⟩, fun i x ex => ?_⟩
  obtain ⟨u, eu, ru⟩ := r'.get ex
  refine ⟨⟨us, u, hq, eu⟩, fun v H' y => ?_⟩
  obtain ⟨rfl, y⟩ := y
  have := y us hq
  rw [eu] at this; cases this
  exact ⟨G, .refl, fun _ s => s, ru⟩
theorem wk_tup {K : PySem.W.Frag} {mg : Str → Option Value} {cm : Bool} {G1 : Gh} {H1 : Hp} {a : Addr} {xs : List Vl} {us : List V} (h1 : StT K G1 H1 a us) (r : RVs K mg G1 H1 xs us) : Wk cm K mg (Itt K a) G1 H1 xs := fun G H e => by
  have k := wk_keep e
  have hq := (k.stT h1).sq
  have r' := r.keep k
  refine ⟨fun i hi => ⟨us, hq, by rw [← r.length]; exact hi⟩, fun i x ex => ?_⟩
  obtain ⟨u, eu, ru⟩ := r'.get ex
  refine ⟨⟨us, u, hq, eu⟩, fun v H' y => ?_⟩
  obtain ⟨rfl, y⟩ := y
  have := y us hq
  rw [eu] at this; cases this
  exact ⟨G, .refl, fun _ s => s, ru⟩
theorem wk_rng {K : PySem.W.Frag} {mg : Str → Option Value} {cm : Bool} {G1 : Gh} {H1 : Hp} (lo : Int) (n : Nat) : Wk cm K mg (Itr lo n) G1 H1 ((List.range n).map fun k => .int (lo + (k : Nat))) := fun G H e => by
  refine ⟨fun i hi => by rw [List.length_map, List.length_range] at hi; exact hi, fun i x ex => ?_⟩
  rw [List.getElem?_map] at ex
  by_cases hi : i < n
  · rw [List.getElem?_range hi] at ex
    cases ex
    refine ⟨hi, fun v H' y => ?_⟩
    obtain ⟨rfl, rfl⟩ := y
    exact ⟨G, .refl, fun _ s => s, .int _⟩
  · rw [List.getElem?_eq_none (by rw [List.length_range]; omega)] at ex; cases ex
theorem wk_str {K : PySem.W.Frag} {mg : Str → Option Value} {cm : Bool} {G1 : Gh} {H1 : Hp} (z : Str) : Wk cm K mg (Its z) G1 H1 (z.cps.toList.map fun c => .str ⟨#[c]⟩) := fun G H e => by
  refine ⟨fun i hi => by rw [List.length_map, Array.length_toList] at hi; exact hi, fun i x ex => ?_⟩
  rw [List.getElem?_map] at ex
  cases q : z.cps.toList[i]? with
  | none => rw [q] at ex; cases ex
  | some c =>
    rw [q] at ex; cases ex
    have hi : i < z.cps.size := by
      have := (List.getElem?_eq_some_iff.mp q).1
      rwa [Array.length_toList] at this
    refine ⟨hi, fun v H' y => ?_⟩
    obtain ⟨rfl, c', e1, rfl⟩ := y
    rw [← Array.getElem?_toList, q] at e1
    cases e1
    exact ⟨G, .refl, fun _ s => s, .str _⟩
theorem si_seq {cm : Bool} {tg : Expr} (ha : SE X W x ma) : SI X W cm tg x (fun r => bnd (ma r) fun x => opt (seqI cm x)) := by
  intro Z al r σ G H st R en hs h
  have h0 := h.bnd
  cases hm : ma r st with
  | bad => rw [hm] at h0; exact h0.elim
  | exc n e st' =>
    refine rdI_of (pi_list rdE_pe) (ha Z al r σ G H st _ en hs ?_)
    rw [hm] at h0 ⊢
    exact h0
  | ok u st' =>
    rw [hm] at h0
    have k : ∀ G' H', Ext G H G' H' → StR X.K X.mg G' H' st' → ∃ xs, seqI cm u = some xs ∧ ∀ J, Wk cm X.K X.mg J G' H' xs → R J H' := fun G' H' e s => by
      obtain ⟨xs, e1, e2⟩ := (h0 G' H' e s).opt s
      exact ⟨xs, e1, e2⟩
    have asL : (∀ G' H', Ext G H G' H' → StR X.K X.mg G' H' st' → ∀ v, RB X.K X.mg G' H' u v → ∃ a us xs, v = .ref a ∧ seqI cm u = some xs ∧ (∀ G2 H2, (if cm = true then Ext G' H' G2 H2 else Keep G' H' G2 H2) → SqL X.K H2 a us) ∧ RVs X.K X.mg G' H' xs us) → rdI X tg x σ H R := fun q => by
      refine rdI_of (pi_list rdE_pe) (ha Z al r σ G H st _ en hs ?_)
      rw [hm]
      intro G' H' e s v rv
      obtain ⟨a, us, xs, rfl, e1, e2, e3⟩ := q G' H' e s v rv
      obtain ⟨xs', e4, e5⟩ := k G' H' e s
      rw [e1] at e4; cases e4
      exact ⟨a, rfl, ⟨us, e2 G' H' (by cases cm; exact Keep.refl; exact Ext.refl)⟩, e5 _ (wk_list e2 e3)⟩
    cases u with
    | tup xs =>
      refine rdI_of (pi_tup rdE_pe) (ha Z al r σ G H st _ en hs ?_)
      rw [hm]
      intro G' H' e s v rv
      obtain ⟨a, us, rfl, h1, r1⟩ := rb_tup rv
      obtain ⟨xs', e1, e2⟩ := k G' H' e s
      cases e1
      exact ⟨a, rfl, ⟨us, h1.sq⟩, e2 _ (wk_tup h1 r1)⟩
    | lst xs =>
      refine asL fun G' H' e s v rv => ?_
      have rv' := rv.rv rfl
      cases rv' with
      | lst n h1 r1 => exact ⟨_, _, xs, rfl, rfl, fun G2 H2 kk => .of ((wk_keep kk).st _ _ n h1).2, r1⟩
    | scr xs =>
      refine asL fun G' H' e s v rv => ?_
      have rv' := rv.rv rfl
      cases rv' with
      | scr h1 r1 => exact ⟨_, _, xs, rfl, rfl, fun G2 H2 kk => ((wk_keep kk).stL h1).sq, r1⟩
    | bor xs =>
      cases cm with
      | false =>
        obtain ⟨_, e1, _⟩ := id (show ∃ G' H', Ext G H G' H' ∧ StR X.K X.mg G' H' st' ∨ True from ⟨G, H, .inr trivial⟩)
        refine rdI_of (pi_list rdE_pe) (ha Z al r σ G H st _ en hs ?_)
        rw [hm]
        intro G' H' e s v rv
        obtain ⟨_, e1, _⟩ := k G' H' e s
        cases e1
      | true =>
        refine asL fun G' H' e s v rv => ?_
        rcases rv with rv | ⟨xs', a, us, e1, rfl, e3, e4, e5⟩
        · cases rv
        · cases e1
          exact ⟨a, us, xs, rfl, rfl, fun G2 H2 kk => .of (Ext.keep kk a _ e4 e3), e5⟩
    | str z =>
      refine rdI_of (pi_str rdE_pe) (ha Z al r σ G H st _ en hs ?_)
      rw [hm]
      intro G' H' e s v rv
      cases rb_str rv
      obtain ⟨xs', e1, e2⟩ := k G' H' e s
      cases e1
      exact ⟨z, rfl, e2 _ (wk_str z)⟩
    | _ =>
      refine rdI_of (pi_list rdE_pe) (ha Z al r σ G H st _ en hs ?_)
      rw [hm]
      intro G' H' e s v rv
      obtain ⟨_, e1, _⟩ := k G' H' e s
      cases e1
theorem si_rng1 (w : Wd X c C W) {cm : Bool} {tg : Expr} {q : Pos} (hg : gnB c "range" = true) (hx : isStar x = false) (ha : SE X W x ma) : SI X W cm tg (.Call (.Name "range" q) [x] [] pos) (fun r => bnd (ma r) fun x => opt (match x with
    | .int j => if -(2 ^ 62) ≤ j ∧ j < 2 ^ 62 then some ((List.range j.toNat).map fun i => .int (0 + (i : Nat))) else none
    | _ => none)) := by
  intro Z al r σ G H st R en hs h
  refine rdI_of (pi_range1 (w.gn hg).1 (w.bl _ (by decide)) (pa_cons rdE_pe pa_nil (star_cons hx)) (star_cons hx)) ?_
  refine ha Z al r σ G H st _ en hs (h.bnd.mono fun u st1 G1 H1 e1 s1 h1 v rv => ?_)
  obtain ⟨xs, ex, h2⟩ := h1.opt s1
  split at ex
  · rename_i j
    split at ex
    · rename_i hj
      cases ex
      cases rb_int rv
      exact ⟨j, rfl, hj.1, hj.2, h2 _ (wk_rng 0 j.toNat)⟩
    · cases ex
  · cases ex
theorem si_rng2 (w : Wd X c C W) {cm : Bool} {tg : Expr} {q : Pos} (hg : gnB c "range" = true) (hx : isStar x = false) (hy : isStar y = false) (ha : SE X W x ma) (hb : SE X W y mb) : SI X W cm tg (.Call (.Name "range" q) [x, y] [] pos) (fun r => bnd (ma r) fun x => bnd (mb r) fun y => opt (match x, y with
    | .int i, .int j => if (-(2 ^ 62) ≤ i ∧ i < 2 ^ 62) ∧ -(2 ^ 62) ≤ j ∧ j < 2 ^ 62 then some ((List.range (j - i).toNat).map fun k => .int (i + (k : Nat))) else none
    | _, _ => none)) := by
  intro Z al r σ G H st R en hs h
  refine rdI_of (pi_range2 (w.gn hg).1 (w.bl _ (by decide)) (pa_cons rdE_pe (pa_cons rdE_pe pa_nil (star_cons hy)) (star_cons hx)) (by rw [star_cons hx, star_cons hy]; rfl) (star_cons hy)) ?_
  refine ha Z al r σ G H st _ en hs (h.bnd.mono fun u st1 G1 H1 e1 s1 h1 v rv => ?_)
  refine hb Z al r σ G1 H1 st1 _ (en.step e1) s1 (h1.bnd.mono fun u2 st2 G2 H2 e2 s2 h2 v2 rv2 => ?_)
  obtain ⟨xs, ex, h3⟩ := h2.opt s2
  split at ex
  · rename_i i j
    split at ex
    · rename_i hj
      cases ex
      cases rb_int rv
      cases rb_int rv2
      exact ⟨i, j, rfl, ⟨hj.1.1, hj.1.2, hj.2.1, hj.2.2⟩, h3 _ (wk_rng i (j - i).toNat)⟩
    · cases ex
  · cases ex

/-! ### targets -/
mutual
def gT (K : PySem.W.Frag) : T → TG
  | .nm i => gName i
  | .tp ts => gTup K ts.length (gTs K ts)
def gTs (K : PySem.W.Frag) : List T → TGs
  | [] => gNil
  | t :: ts => gCons (gT K t) (gTs K ts)
end
theorem chkT_star {t : T} {p : Expr} (h : chkT c t p = true) : isStar p = false := by
  cases t <;> cases p <;> first | rfl | cases h
theorem assign_cons {e : Expr} {es : List Expr} {env : Env} (h : isStar e = false) : assignEach (e :: es) env = (false, assign e env) :: assignEach es env := by
  cases e <;> first | rfl | cases h
theorem chkTs_each {env : Env} : ∀ {ts : List T} {es : List Expr}, chkTs c ts es = true → (assignEach es env).length = ts.length ∧ (assignEach es env).findIdx? (·.1) = none
  | [], [], _ => ⟨rfl, rfl⟩
  | t :: ts, e :: es, h => by
    have h : (chkT c t e && chkTs c ts es) = true := h
    rw [Bool.and_eq_true] at h
    obtain ⟨h1, h2⟩ := chkTs_each (env := env) h.2
    rw [assign_cons (chkT_star h.1)]
    refine ⟨by rw [List.length_cons, List.length_cons, h1], ?_⟩
    rw [List.findIdx?_cons]
    simp [h2]
  | [], _ :: _, h => by cases h
  | _ :: _, [], h => by cases h
mutual
theorem tg_pg (hN : X.N = c.N) (nd : X.N.Nodup) (hc : X.calm = true) (hl : ∀ x, locB c.sc x = true → Loc X.env.scope x ∧ (X.fn x = true ∨ X.env.scope.names.lookup x = some .local)) : ∀ {t : T} {p : Expr}, chkT c t p = true → PG X p (gT X.K t)
  | .nm i, .Name x q, h => by
    have h : (decide (c.N[i]? = some x) && locB c.sc x) = true := h
    rw [Bool.and_eq_true] at h
    obtain ⟨h1, h2⟩ := hl x h.2
    exact pg_name nd (by rw [hN]; exact of_decide_eq_true h.1) h1 h2
  | .tp ts, .Tuple es a b, h => by
    obtain ⟨h1, h2⟩ := chkTs_each (env := X.env) (show chkTs c ts es = true from h)
    exact pg_tup hc (tgs_pgs hN nd hc hl (show chkTs c ts es = true from h)) h1 h2
  | .nm _, .BoolOp .., h => by cases h
  | .nm _, .NamedExpr .., h => by cases h
  | .nm _, .BinOp .., h => by cases h
  | .nm _, .Tuple .., h => by cases h
  | .tp _, .Name .., h => by cases h
theorem tgs_pgs (hN : X.N = c.N) (nd : X.N.Nodup) (hc : X.calm = true) (hl : ∀ x, locB c.sc x = true → Loc X.env.scope x ∧ (X.fn x = true ∨ X.env.scope.names.lookup x = some .local)) : ∀ {ts : List T} {es : List Expr}, chkTs c ts es = true → PGs X es (gTs X.K ts)
  | [], [], _ => pgs_nil
  | t :: ts, e :: es, h => by
    have h : (chkT c t e && chkTs c ts es) = true := h
    rw [Bool.and_eq_true] at h
    exact pgs_cons (tg_pg hN nd hc hl h.1) (tgs_pgs hN nd hc hl h.2) (by rw [assign_cons (chkT_star h.1), List.map_cons])
  | [], _ :: _, h => by cases h
  | _ :: _, [], h => by cases h
end
end
end LG

set_option Elab.async false
set_option linter.all false
set_option maxRecDepth 100000
set_option maxHeartbeats 4000000
/-! G13: slots set, blocks, displays. -/
namespace LG
open PySem L2
section
variable {K : PySem.W.Frag} {mg : Str → Option Value} {Z : Fz} {al : Nat → Option Addr} {G G' : Gh} {H H' : Hp} {r : Ev} {σ : L2.St}
theorem EnvR.put (h : EnvR K mg Z al G H r σ) {i : Nat} {sl : Sl} {o : Option V} (hs : i < r.length → SlR K mg Z al G H i sl (some o)) : EnvR K mg Z al G H (r.set i sl) (σ.set i o) where
  len := by rw [List.length_set, List.length_set]; exact h.len
  at_ := fun j s e => by
    by_cases q : i = j
    · subst q
      by_cases hl : i < r.length
      · rw [List.getElem?_set_self hl] at e; cases e
        rw [List.getElem?_set_self (by rw [h.len]; exact hl)]
        exact hs hl
      · rw [List.getElem?_eq_none (by rw [List.length_set]; omega)] at e; cases e
    · rw [List.getElem?_set_ne q] at e
      rw [List.getElem?_set_ne q]
      exact h.at_ j s e
  own := h.own
  inj := h.inj
  ext := h.ext
theorem EnvR.setv (h : EnvR K mg Z al G H r σ) {i : Nat} {x : Vl} {v : V} (rv : RV K mg G H x v) : EnvR K mg Z al G H (r.set i (.v x)) (σ.set i (some v)) := h.put fun _ => .v (.inl rv)
theorem EnvR.wipe (h : EnvR K mg Z al G H r σ) : ∀ vs : List Nat, EnvR K mg Z al G H (wipeE r vs) (L2.wipe σ vs)
  | [] => h
  | v :: vs => (EnvR.wipe h vs).put fun _ => .e
theorem wipe_in {v : Option V} {i : Nat} : ∀ {vs : List Nat} {σ : L2.St}, i ∈ vs → L2.wipe (σ.set i v) vs = L2.wipe σ vs
  | [], _, h => by cases h
  | j :: vs, σ, h => by
    unfold L2.wipe
    by_cases q : i ∈ vs
    · rw [wipe_in q]
    · have e : i = j := by
        rcases List.mem_cons.mp h with e | e
        · exact e
        · exact absurd e q
      subst e
      have out : ∀ {vs : List Nat} {σ : L2.St}, i ∉ vs → L2.wipe (σ.set i v) vs = (L2.wipe σ vs).set i v := by
        intro vs
        induction vs with
        | nil => intro σ _; rfl
        | cons k vs ih =>
          intro σ hk
          have h1 : i ≠ k := fun z => hk (z ▸ List.mem_cons_self)
          unfold L2.wipe
          rw [ih fun z => hk (List.mem_cons_of_mem _ z), List.set_comm _ _ h1]
      rw [out q, List.set_set]
theorem wipe_out {v : Option V} {i : Nat} : ∀ {vs : List Nat} {σ : L2.St}, i ∉ vs → L2.wipe (σ.set i v) vs = (L2.wipe σ vs).set i v
  | [], _, _ => rfl
  | k :: vs, σ, h => by
    have h1 : i ≠ k := fun z => h (z ▸ List.mem_cons_self)
    unfold L2.wipe
    rw [wipe_out fun z => h (List.mem_cons_of_mem _ z), List.set_comm _ _ h1]
theorem wipe_twice : ∀ {vs us : List Nat} {σ : L2.St}, (∀ i ∈ us, i ∈ vs) → L2.wipe (L2.wipe σ us) vs = L2.wipe σ vs
  | _, [], _, _ => rfl
  | vs, u :: us, σ, h => by
    show L2.wipe ((L2.wipe σ us).set u none) vs = _
    rw [wipe_in (h u List.mem_cons_self), wipe_twice fun i hi => h i (List.mem_cons_of_mem _ hi)]
theorem bindTs_len : ∀ {ts : List T} {xs : List Vl} {r r' : Ev}, bindTs ts xs r = some r' → xs.length = ts.length
  | [], [], _, _, _ => rfl
  | [], _ :: _, _, _, e => by cases e
  | _ :: _, [], _, _, e => by cases e
  | t :: ts, x :: xs, r, r', e => by
    have e : (bindT t x r).bind (bindTs ts xs) = some r' := e
    cases q : bindT t x r with
    | none => rw [q] at e; cases e
    | some r2 => rw [q] at e; rw [List.length_cons, List.length_cons, bindTs_len (r := r2) e]
mutual
theorem tg_run {st : Sto} : ∀ {t : T} {x : Vl} {r r' : Ev} {σ : L2.St} {v : V} {Q : L2.St → Hp → Prop}, bindT t x r = some r' → RB K mg G H x v → EnvR K mg Z al G H r σ →
    (∀ σ', EnvR K mg Z al G H r' σ' → (∀ vs, (∀ i ∈ ixT t, i ∈ vs) → L2.wipe σ' vs = L2.wipe σ vs) → Q σ' H) → gT K t v σ H Q
  | .nm i, x, r, r', σ, v, Q, e, rv, en, k => by
    have e : (if notBor x then some (r.set i (.v x)) else none) = some r' := e
    by_cases hb : notBor x = true
    · rw [if_pos hb] at e; cases e
      exact k _ (en.setv (rv.rv hb)) fun vs hv => wipe_in (hv i (List.mem_singleton.mpr rfl))
    · rw [if_neg hb] at e; cases e
  | .tp ts, .tup xs, r, r', σ, v, Q, e, rv, en, k => by
    obtain ⟨a, us, rfl, h1, r1⟩ := rb_tup rv
    have e : bindTs ts xs r = some r' := e
    have len := bindTs_len e
    exact ⟨a, us, rfl, h1.sq, by rw [← r1.length]; exact len, tgs_run (st := st) e r1 en k⟩
theorem tgs_run {st : Sto} : ∀ {ts : List T} {xs : List Vl} {r r' : Ev} {σ : L2.St} {vs : List V} {Q : L2.St → Hp → Prop}, bindTs ts xs r = some r' → RVs K mg G H xs vs → EnvR K mg Z al G H r σ →
    (∀ σ', EnvR K mg Z al G H r' σ' → (∀ ws, (∀ i ∈ ixTs ts, i ∈ ws) → L2.wipe σ' ws = L2.wipe σ ws) → Q σ' H) → gTs K ts vs σ H Q
  | [], [], r, r', σ, vs, Q, e, rv, en, k => by
    cases e
    cases rv
    exact ⟨rfl, k σ en fun _ _ => rfl⟩
  | t :: ts, x :: xs, r, r', σ, vs, Q, e, rv, en, k => by
    have e : (bindT t x r).bind (bindTs ts xs) = some r' := e
    cases q : bindT t x r with
    | none => rw [q] at e; cases e
    | some r2 =>
      rw [q] at e
      cases rv with
      | cons r1 rs =>
        refine ⟨_, _, rfl, tg_run (st := st) q r1.rb en fun σ2 en2 w2 => ?_⟩
        refine tgs_run (st := st) e rs en2 fun σ3 en3 w3 => k σ3 en3 fun ws hw => ?_
        rw [w3 ws fun i hi => hw i (List.mem_append_right _ hi), w2 ws fun i hi => hw i (List.mem_append_left _ hi)]
end

/-! ### own things written -/
theorem ext_upd {G0 : Gh} {H0 : Hp} {a : Addr} {o : HO} (e : Ext G0 H0 G H) (ha : H0 a = none) : Ext G0 H0 G (upd H a o) where
  mu := e.mu
  mt := e.mt
  keep := fun b u h n => by rw [upd_ne (ne_of_none h ha)]; exact e.keep b u h n
  new := e.new
  dom := fun b u h => by rw [upd_ne (ne_of_none h ha)]; exact e.dom b u h
theorem keep_upd {a : Addr} {o : HO} (hm : G.mt a) : Keep G H G (upd H a o) := ⟨fun _ _ h => h, fun b u n h => ⟨n, by rw [upd_ne (fun (z : b = a) => n (z ▸ hm))]; exact h⟩⟩
theorem StR.upd {st : Sto} {a : Addr} {o : HO} (s : StR K mg G H st) (hm : G.mt a) (hn : ∀ j, G.mu j ≠ some a) : StR K mg G (upd H a o) st where
  at_ := fun i ob h => let ⟨b, h1, h2⟩ := s.at_ i ob h; ⟨b, h1, h2.keepK (keep_upd hm) fun u hu => by rw [upd_ne (fun (z : b = a) => hn i (z ▸ h1))]; exact hu⟩
  inj := s.inj
  lim := s.lim
  mtd := fun b q => by
    by_cases e : b = a
    · exact ⟨o, by rw [e, upd_same]⟩
    · obtain ⟨u, hu⟩ := s.mtd b q
      exact ⟨u, by rw [upd_ne e]; exact hu⟩
end

section
variable {X : Cx} {c : Sc} {C : Ca} {W : WX} {x y z : Expr} {ma mb : Ev → M Vl} {pos : Pos}
/-- no exception leaves a block -/
def Wf : WX := fun _ _ _ _ => False
def rdTs (X : Cx) (ifs : List Expr) : TT := fun σ H Q => ∀ (pins : Pn) (s : Shared), Inv X pins σ H s →
  wpAny (model X.prog X.w) X.A (forIn ifs true fun c r => if r = true then do let ok ← isTrue c X.env (eval c X.env); pure (ForInStep.yield ok) else pure (ForInStep.yield r)) (TP X pins σ Q) X.xe s
def STs (X : Cx) (W : WX) (p : List Expr) (m : Ev → M Bool) : Prop := ∀ (Z : Fz) (al : Nat → Option Addr) (r : Ev) (σ : L2.St) (G : Gh) (H : Hp) (st : Sto) (Q : Bool → Hp → Prop), EnvR X.K X.mg Z al G H r σ → StR X.K X.mg G H st →
  Cov X.K X.mg (WE W σ) G H (m r st) (fun b st' G' H' => Q b H') → rdTs X p σ H Q
theorem sts_nil : STs X W [] (fun _ => ret true) := fun Z al r σ G H st Q en hs h pins s I => pts_nil.run pins s σ H Q I (h.ret hs)
theorem sts_one {t : Ev → M Bool} (ha : STt X W x t) : STs X W [x] t := fun Z al r σ G H st Q en hs h pins s I => (pts_one rdT_pt).run pins s σ H Q I (ha Z al r σ G H st Q en hs h)
abbrev Bl (X : Cx) (scope : Scope) (s : Shared) (H : Hp) (D : Addr) (cl : List (Str × Addr)) (fp : List Addr) : Cx := X.blk s H scope (compEnvC scope cl D X.env) fp
theorem Wd.blk (w : Wd X c C W) {scope : Scope} (s : Shared) (H : Hp) (D : Addr) (cl : List (Str × Addr)) (fp : List Addr) : Wd (Bl X scope s H D cl fp) ⟨c.N, scopeOf scope c.sc, c.ks, c.ki⟩ C Wf where
  ar := ⟨w.ar.calm, w.ar.gd, w.ar.un, w.ar.sm⟩
  nm := w.nm
  sc := by show relS scope X.env.scope = _; rw [w.sc]; rfl
  nd := w.nd
  bl := w.bl
  ks := w.ks
  ki := w.ki
  isa := w.isa
  tk := fun u s' ⟨_, _, _, _, _, _, _, _, _, _, _, _, _, _, _, _, f⟩ => f
  cal := fun Y V sm tk => w.cal Y V ⟨sm.prog, sm.w, sm.K, sm.mg, sm.base, sm.A, sm.calm⟩ tk
def ttC (X : Cx) (scope : Scope) (ifs : List Expr) : TT := fun σ H Q => ∀ s H0 D cl fp, rdTs (Bl X scope s H0 D cl fp) ifs σ H Q
def teC (X : Cx) (scope : Scope) (elt : Expr) : TE := fun σ H Q => ∀ s H0 D cl fp, rdE (Bl X scope s H0 D cl fp) elt σ H Q
theorem comp_tg (w : Wd X c C W) {t : T} {tg : Expr} {scope : Scope} (htg : chkT ⟨c.N, scope, c.ks, c.ki⟩ t tg = true) (s : Shared) (H0 : Hp) (D : Addr) (cl : List (Str × Addr)) (fp : List Addr) : PG (Bl X scope s H0 D cl fp) tg (gT X.K t) := by
  refine tg_pg (X := Bl X scope s H0 D cl fp) (c := ⟨c.N, scope, c.ks, c.ki⟩) w.nm w.nd w.ar.calm (fun x hx => ?_) htg
  have hx := locB_ok hx
  rcases hx with hx | hx
  · have q : (relS scope X.env.scope).names.lookup x = some .local := lookup_relS_keep (by decide) hx
    exact ⟨.inl q, .inr q⟩
  · have q : (relS scope X.env.scope).names.lookup x = some .cell := lookup_relS_keep (by decide) hx
    refine ⟨.inr q, .inl ?_⟩
    show (scope.names.lookup x == some NameKind.cell) = true
    rw [hx]; rfl
theorem comp_read (w : Wd X c C W) {own : List (Str × Nat)} {t : T} {tg i elt : Expr} {ifs : List Expr} {scope : Scope} {mi : Ev → M (List Vl)} {mc : Ev → M Bool} {me : Ev → M Vl}
    (hin : inT own t = true) (hi : SI X W true tg i mi)
    (hc : ∀ s H D cl fp, STs (Bl X scope s H D cl fp) Wf ifs mc) (he : ∀ s H D cl fp, SE (Bl X scope s H D cl fp) Wf elt me)
    (Z : Fz) (al : Nat → Option Addr) (r : Ev) (σ : L2.St) (G : Gh) (H : Hp) (st : Sto) (Q : VK) (en : EnvR X.K X.mg Z al G H r σ) (hs : StR X.K X.mg G H st)
    (h : Cov X.K X.mg (WE W σ) G H ((bnd (mi r) fun xs => if xs.length ≤ sizeLine then bnd (compL (fun x => bnd (opt (bindT t x (wipeE r (own.map (·.2))))) fun r' =>
      bnd (mc r') fun b => if b then bnd (me r') fun y => if notBor y then ret (some y) else bad else ret none) xs) fun ys => ret (.lst ys) else bad) st) (fun o st' G' H' => ∀ v, FR X.K X.mg H G' H' o v → Q v H')) :
    tLc (rdI X tg i) (gT X.K t) (ttC X scope ifs) (teC X scope elt) (own.map (·.2)) σ H Q := by
  refine hi Z al r σ G H st _ en hs (h.bnd.mono fun xs st1 G1 H1 e1 s1 h1 J wk D hD => ?_)
  by_cases hsz : xs.length ≤ sizeLine
  · rw [if_pos hsz] at h1
    refine ⟨fun i m Hc => m = xs.length - i ∧ i ≤ xs.length ∧ ∃ Gc stc acc us, Ext G1 H1 Gc Hc ∧ StR X.K X.mg Gc Hc stc ∧ Gc.mt D ∧ (∀ j, Gc.mu j ≠ some D) ∧ Hc D = some (.lst us) ∧ RVs X.K X.mg Gc Hc acc us ∧ acc.length ≤ i ∧
      Cov X.K X.mg (WE W σ) G1 H1 (compL (fun x => bnd (opt (bindT t x (wipeE r (own.map (·.2))))) fun r' =>
      bnd (mc r') fun b => if b then bnd (me r') fun y => if notBor y then ret (some y) else bad else ret none) (xs.drop i) stc) (fun ys st' G' H' => ∀ v, FR X.K X.mg H G' H' (.lst (acc ++ ys)) v → Q v H'),
      ⟨xs.length, by simp, Nat.zero_le _, G1.more D, st1, [], [], ext_more hD, s1.more hD, .inr rfl, s1.nmu hD, upd_same, .nil, Nat.le_refl _, ?_⟩, ?_⟩
    · exact h1.bnd0.mono fun ys st' G' H' e s hk => hk G' H' e s
    rintro i m Hc ⟨rfl, hi, Gc, stc, acc, us, ec, sc, hmt, hmu, hDc, racc, hl, hcov⟩
    obtain ⟨hstop, hgo⟩ := wk Gc Hc (by rw [if_pos rfl]; exact ec)
    by_cases hlt : i < xs.length
    · obtain ⟨hg, hy⟩ := hgo i xs[i] (by simp [hlt])
      refine .inr ⟨hg, fun H' => xs.length - (i + 1) = xs.length - (i + 1) ∧ i + 1 ≤ xs.length ∧ ∃ Gc stc acc us, Ext G1 H1 Gc H' ∧ StR X.K X.mg Gc H' stc ∧ Gc.mt D ∧ (∀ j, Gc.mu j ≠ some D) ∧ H' D = some (.lst us) ∧ RVs X.K X.mg Gc H' acc us ∧ acc.length ≤ i + 1 ∧
        Cov X.K X.mg (WE W σ) G1 H1 (compL (fun x => bnd (opt (bindT t x (wipeE r (own.map (·.2))))) fun r' =>
        bnd (mc r') fun b => if b then bnd (me r') fun y => if notBor y then ret (some y) else bad else ret none) (xs.drop (i + 1)) stc) (fun ys st' G' H' => ∀ v, FR X.K X.mg H G' H' (.lst (acc ++ ys)) v → Q v H'),
        fun H' q => ⟨xs.length - (i + 1), by omega, q⟩, fun v H' y => ?_⟩
      obtain ⟨G', e', s', rv⟩ := hy v H' y
      rw [List.drop_eq_getElem_cons hlt] at hcov
      have h3 := (Cov.bnd0 hcov).noX (E' := WE Wf (L2.wipe σ (own.map (·.2))))
      have h5 := h3.ext (ec.trans e')
      have s2 := s' stc sc
      obtain ⟨r', er, h6⟩ := (Cov.bnd h5).opt s2
      have env : EnvR X.K X.mg Z al G' H' (wipeE r (own.map (·.2))) (L2.wipe σ (own.map (·.2))) := (en.step ((e1.trans ec).trans e')).wipe _
      refine tg_run (st := st) er rv.rb env fun σ2 en2 hw => ⟨?_, ?_⟩
      · rw [hw _ fun j hj => of_decide_eq_true (List.all_eq_true.mp hin j hj)]
        exact wipe_twice fun _ h => h
      · intro s H0 D' cl fp
        refine hc s H0 D' cl fp Z al r' σ2 G' H' stc _ en2 s2 (Cov.mono (Cov.bnd h6) fun b st3 G3 H3 e3 s3 h7 => ?_)
        have d3 : H3 D = some (.lst us) := e3.keep D _ (e'.keep D _ hDc hmu) fun j z => (e'.new j D z).elim (hmu j) fun q => by rw [hDc] at q; cases q
        have mu' : ∀ j, G'.mu j ≠ some D := fun j z => (e'.new j D z).elim (hmu j) fun q => by rw [hDc] at q; cases q
        have d' : H' D = some (.lst us) := e'.keep D _ hDc hmu
        have mu3 : ∀ j, G3.mu j ≠ some D := fun j z => (e3.new j D z).elim (mu' j) fun q => by rw [d'] at q; cases q
        have mt3 : G3.mt D := (e3.mt D _ d').mpr ((e'.mt D _ hDc).mpr hmt)
        cases b with
        | false =>
          have h8 := (show Cov X.K X.mg (WE Wf σ2) G3 H3 (ret none st3) _ from h7).ret s3
          refine ⟨rfl, hlt, G3, st3, acc, us, (ec.trans e').trans e3, s3, mt3, mu3, d3, (racc.ext e').ext e3, by omega, ?_⟩
          exact (Cov.bnd0 h8).mono fun ys st' G' H' e s hk => hk G' H' e s
        | true =>
          intro s4 H04 D4 cl4 fp4
          have h7' : Cov X.K X.mg (WE Wf σ2) G3 H3 (bnd (me r') (fun y => if notBor y then ret (some y) else bad) st3) _ := h7
          refine he s4 H04 D4 cl4 fp4 Z al r' σ2 G3 H3 st3 _ (en2.step e3) s3 (h7'.bnd.mono fun y st4 G4 H4 e4 s4 h8 v4 rv4 => ?_)
          have d4 : H4 D = some (.lst us) := e4.keep D _ d3 mu3
          have mu4 : ∀ j, G4.mu j ≠ some D := fun j z => (e4.new j D z).elim (mu3 j) fun q => by rw [d3] at q; cases q
          have mt4 : G4.mt D := (e4.mt D _ d3).mpr mt3
          by_cases hb : notBor y = true
          · rw [if_pos hb] at h8
            have h9 := h8.ret s4
            have ll := racc.length
            refine ⟨us, d4, by omega, rfl, hlt, G4, st4, acc ++ [y], us ++ [v4], ext_upd (((ec.trans e').trans e3).trans e4) hD, s4.upd mt4 mu4, mt4, mu4, upd_same, ?_, by rw [List.length_append, List.length_singleton]; omega, ?_⟩
            · exact ((((racc.ext e').ext e3).ext e4).append (.one (rv4.rv hb))).keep (keep_upd mt4)
            · exact (Cov.bnd0 h9).mono fun ys st' G' H' e s hk => by
                have := hk G' H' e s
                rw [List.append_assoc]
                exact this
          · rw [if_neg hb] at h8
            exact h8.elim
    · have ei : i = xs.length := by omega
      subst ei
      refine .inl ⟨hstop _ (Nat.le_refl _), ?_⟩
      rw [List.drop_length] at hcov
      have q : ∀ v, FR X.K X.mg H Gc Hc (.lst (acc ++ [])) v → Q v Hc := hcov Gc Hc ec sc
      rw [List.append_nil] at q
      exact q _ ⟨D, rfl, e1.fresh hD, hmt, hmu, .lst hDc racc⟩
  · rw [if_neg hsz] at h1
    exact h1.elim
theorem sf_comp (w : Wd X c C W) {own : List (Str × Nat)} {t : T} {tg i elt : Expr} {ifs : List Expr} {scope : Scope} {mi : Ev → M (List Vl)} {mc : Ev → M Bool} {me : Ev → M Vl}
    (hblk : blkC c.N c.sc scope own = true) (htg : chkT ⟨c.N, scope, c.ks, c.ki⟩ t tg = true) (hin : inT own t = true) (hset : noSet i = true) (hi : SI X W true tg i mi)
    (hc : ∀ s H D cl fp, STs (Bl X scope s H D cl fp) Wf ifs mc) (he : ∀ s H D cl fp, SE (Bl X scope s H D cl fp) Wf elt me) :
    SF X W (.ListComp elt [⟨tg, i, ifs, 0⟩] scope pos) (fun r => bnd (mi r) fun xs => if xs.length ≤ sizeLine then bnd (compL (fun x => bnd (opt (bindT t x (wipeE r (own.map (·.2))))) fun r' =>
      bnd (mc r') fun b => if b then bnd (me r') fun y => if notBor y then ret (some y) else bad else ret none) xs) fun ys => ret (.lst ys) else bad) := by
  intro Z al r σ G H st Q en hs h
  have ok : BlkOk X.N X.env.scope scope own := by rw [w.nm, w.sc]; exact blkOk_by hblk
  refine rdE_of (pe_lc (g := gT X.K t) (tt := ttC X scope ifs) (te := teC X scope elt) w.ar.calm w.nd rdI_pi ok (comp_tg w htg)
    (fun s H0 D cl fp => ⟨fun pins s' σ H Q I q => q s H0 D cl fp pins s' I⟩) (fun s H0 D cl fp => ⟨fun pins s' σ H Q I q => q s H0 D cl fp pins s' I⟩) (noSet_fold hset)) ?_
  exact comp_read w hin hi hc he Z al r σ G H st Q en hs h
/-- name = [..] on one line -/
theorem cs_comp (w : Wd X c C W) {own : List (Str × Nat)} {t : T} {tg i elt : Expr} {ifs : List Expr} {scope : Scope} {n : Str} {py q : Pos} {k : Nat}
    (hblk : blkC c.N c.sc scope own = true) (htg : chkT ⟨c.N, scope, c.ks, c.ki⟩ t tg = true) (hset : noSet i = true) (hk : c.N[k]? = some n) (hl : X.env.scope.names.lookup n = some .local) (hsw : swapsWith (.ListComp elt [⟨tg, i, ifs, 0⟩] scope pos) (some (.Name n py)) q.line X.env = pure true) :
    PS X (.Assign [.Name n py] (.ListComp elt [⟨tg, i, ifs, 0⟩] scope pos) q) (tAsg (tLc (rdI X tg i) (gT X.K t) (ttC X scope ifs) (teC X scope elt) (own.map (·.2))) (gName k)) :=
  ps_setLc w.ar.calm w.nd (by rw [w.nm]; exact hk) hl hsw rdI_pi (by rw [w.nm, w.sc]; exact blkOk_by hblk) (comp_tg w htg)
    (fun s H0 D cl fp => ⟨fun pins s' σ H Q I q => q s H0 D cl fp pins s' I⟩) (fun s H0 D cl fp => ⟨fun pins s' σ H Q I q => q s H0 D cl fp pins s' I⟩) (noSet_fold hset)
end
end LG

set_option Elab.async false
set_option linter.all false
set_option maxRecDepth 100000
set_option maxHeartbeats 4000000
/-! G14: every expression's evaluation is sound. -/
namespace LG
open PySem L2
section
variable {X : Cx} {c : Sc} {C : Ca} {W : WX} {x y z : Expr} {ma mb : Ev → M Vl} {pos : Pos}
def trsOf (X : Cx) : List Str → List Expr → List (TE × TE)
  | k :: ks, e :: es => (tC (.str k), rdE X e) :: trsOf X ks es
  | _, _ => []
theorem disp_pps {q : Pos} : ∀ {ks : List Str} {kl : List (Option Expr)} {vl : List Expr}, keysB ks kl = true → ks.length = vl.length → PPs X q kl vl (trsOf X ks vl) ∧ kl.all (·.isSome) = true ∧ kl.length = ks.length
  | [], [], [], _, _ => ⟨pps_nil, rfl, rfl⟩
  | [], _ :: _, _, h, _ => by cases h
  | [], [], _ :: _, _, h => by cases h
  | _ :: _, _, [], _, h => by cases h
  | _ :: _, [], _ :: _, h, _ => by cases h
  | k :: ks, ko :: kl, v :: vl, h, hl => by
    obtain ⟨s, kk, p1, e1, e2, e3⟩ : ∃ s kk p1, ko = some (.Constant (.str s) kk p1) ∧ k = s ∧ keysB ks kl = true := by
      unfold keysB at h
      split at h
      · rename_i e1 e2
        cases e1
      · rename_i e1 e2
        cases e1; cases e2
        rw [Bool.and_eq_true] at h
        exact ⟨_, _, _, rfl, of_decide_eq_true h.1, h.2⟩
      · cases h
    subst e1 e2
    obtain ⟨h1, h2, h3⟩ := disp_pps (q := q) e3 (by simpa using hl)
    exact ⟨pps_cons pe_str rdE_pe h1, by rw [List.all_cons, h2]; rfl, by rw [List.length_cons, List.length_cons, h3]⟩
theorem disp_run {Z : Fz} {al : Nat → Option Addr} {r : Ev} {σ : L2.St} : ∀ {ks : List Str} {vl : List Expr} {ms : List (Ev → M Vl)} {G : Gh} {H : Hp} {st : Sto} {Q : List (V × V) → Hp → Prop}, AllSE X W vl ms → ks.length = vl.length →
    EnvR X.K X.mg Z al G H r σ → StR X.K X.mg G H st → Cov X.K X.mg (WE W σ) G H (seqMs ms r st) (fun xs st' G' H' => ∀ vs, RBs X.K X.mg G' H' xs vs → Q ((ks.map V.str).zip vs) H') → tPairs (trsOf X ks vl) σ H Q
  | [], [], _, G, H, st, Q, .nil, _, en, hs, h => h.ret hs [] .nil
  | [], _ :: _, _, _, _, _, _, _, h, _, _, _ => by cases h
  | _ :: _, [], _, _, _, _, _, _, h, _, _, _ => by cases h
  | k :: ks, e :: es, _, G, H, st, Q, .cons h1 h2, hl, en, hs, h => by
    refine h1 Z al r σ G H st _ en hs ((Cov.bnd h).mono fun x st1 G1 H1 e1 s1 k1 v rv => ?_)
    refine disp_run h2 (by simpa using hl) (en.step e1) s1 ((Cov.bnd k1).mono fun xs st2 G2 H2 e2 s2 k2 vs rvs => ?_)
    exact k2.ret s2 _ (.cons (rv.ext e2) rvs)
theorem disp_kvs {K : PySem.W.Frag} {mg : Str → Option Value} {G : Gh} {H : Hp} : ∀ {ks : List Str} {xs : List Vl} {kvs : List (Key × Vl)} {vs : List V}, dispL ks xs = some kvs → RVs K mg G H xs vs →
    RVk K mg G H kvs ((ks.map Sum.inr).zip vs) ∧ (ks.map V.str).zip vs = ((ks.map Sum.inr).zip vs).map (fun kv => (kV kv.1, kv.2)) ∧ ((ks.map (Sum.inr : Str → Key)).zip vs).length = kvs.length
  | [], [], _, _, e, h => by cases e; cases h; exact ⟨.nil, rfl, rfl⟩
  | [], _ :: _, _, _, e, _ => by cases e
  | _ :: _, [], _, _, e, _ => by cases e
  | k :: ks, x :: xs, kvs, vs, e, h => by
    have e : (dispL ks xs).map ((.inr k, x) :: ·) = some kvs := e
    cases q : dispL ks xs with
    | none => rw [q] at e; cases e
    | some kvs' =>
      rw [q] at e; cases e
      cases h with
      | cons r t =>
        obtain ⟨h1, h2, h3⟩ := disp_kvs q t
        refine ⟨.cons r h1, ?_, ?_⟩
        · rw [List.map_cons, List.zip_cons_cons, h2]; rfl
        · rw [List.map_cons, List.zip_cons_cons, List.length_cons, List.length_cons, h3]
theorem sf_disp {ks : List Str} {kl : List (Option Expr)} {vl : List Expr} {ms : List (Ev → M Vl)} (hk : keysB ks kl = true) (hl : ks.length = vl.length) (hne : ks ≠ []) (h15 : ks.length ≤ 15) (ha : AllSE X W vl ms) :
    SF X W (.Dict kl vl pos) (fun r => bnd (seqMs ms r) fun xs => opt ((dispL ks xs).bind fun kvs => if kvs.length ≤ 15 ∧ xs.all notBor then some (.dk (putAll [] kvs)) else none)) := by
  intro Z al r σ G H st Q en hs h
  obtain ⟨h1, h2, h3⟩ := disp_pps (X := X) (q := pos) hk hl
  refine rdE_of (pe_disp h1 h2 (by rw [h3, hl]) (fun z => hne (List.eq_nil_of_length_eq_zero (by rw [← h3, z]; rfl))) (by rw [h3]; exact h15)) fun p hp => ?_
  have e0 := ext_more (G := G) (o := HO.dK []) hp
  refine disp_run ha hl (en.step e0) (hs.more hp) (((Cov.bnd0 h).ext e0).mono fun xs st1 G1 H1 e1 s1 k1 vs rvs => ?_)
  have pm : ∀ j, (G.more p).mu j ≠ some p := hs.nmu hp
  have d1 : H1 p = some (.dK []) := e1.keep p _ upd_same pm
  have m1 : G1.mt p := (e1.mt p _ upd_same).mpr (.inr rfl)
  have mu1 : ∀ j, G1.mu j ≠ some p := fun j z => (e1.new j p z).elim (pm j) fun q => by rw [upd_same] at q; cases q
  have k1' := k1.ext (e0.trans e1)
  obtain ⟨o, eo, _⟩ := k1'.opt s1
  have hQ := fun G' H' (e : Ext G H G' H') (s : StR X.K X.mg G' H' st1) => (k1.ext e).opt s
  cases q : dispL ks xs with
  | none => rw [q] at eo; cases eo
  | some kvs =>
    rw [q] at eo
    have eo : (if kvs.length ≤ 15 ∧ xs.all notBor then some (Ob.dk (putAll [] kvs)) else none) = some o := eo
    by_cases hc : kvs.length ≤ 15 ∧ xs.all notBor = true
    · rw [if_pos hc] at eo; cases eo
      obtain ⟨r1, r2, r3⟩ := disp_kvs q (rvs.rvs hc.2)
      refine ⟨d1, _, r2, by rw [r3]; exact hc.1, ?_⟩
      have e2 := ext_upd (o := HO.dK (mergeK [] ((ks.map (Sum.inr : Str → Key)).zip vs))) (e0.trans e1) hp
      have s2 := s1.upd (o := HO.dK (mergeK [] ((ks.map (Sum.inr : Str → Key)).zip vs))) m1 mu1
      obtain ⟨o2, eo2, hq⟩ := hQ _ _ e2 s2
      rw [q] at eo2
      have eo2 : (if kvs.length ≤ 15 ∧ xs.all notBor then some (Ob.dk (putAll [] kvs)) else none) = some o2 := eo2
      rw [if_pos hc] at eo2; cases eo2
      refine hq _ ⟨p, rfl, hp, m1, mu1, .dk upd_same ?_⟩
      have rr : RVk X.K X.mg G1 H1 (LG.putAll [] kvs) (mergeK [] ((ks.map Sum.inr).zip vs)) := RVk.putAll r1 .nil
      exact rr.keep (keep_upd m1)
    · rw [if_neg hc] at eo; cases eo
end

theorem se_bad {X : Cx} {W : WX} {p : Expr} : SE X W p (fun _ => (tru bad).1) ∧ STt X W p (fun _ => (tru bad).2) :=
  ⟨fun Z al r σ G H st Q en hs h => h.elim, fun Z al r σ G H st Q en hs h => h.elim⟩
mutual
theorem snd_E : ∀ (ce : E) {X : Cx} {c : Sc} {C : Ca} {W : WX} {p : Expr}, chkE c ce p = true → Wd X c C W → SE X W p (fun r => (evB C ce r).1) ∧ STt X W p (fun r => (evB C ce r).2)
  | .var i, X, c, C, W, p, h, w => by obtain ⟨x, q, rfl, h⟩ := iE_var h; exact both_tru rfl (se_var w h)
  | .own i, X, c, C, W, p, h, w => by obtain ⟨x, q, rfl, h⟩ := iE_own h; exact both_tru rfl (se_own w h)
  | .int i, X, c, C, W, p, h, w => by obtain ⟨k, q, rfl⟩ := iE_int h; exact both_tru rfl (se_con pe_int fun _ _ => .inl (.int i))
  | .bl i, X, c, C, W, p, h, w => by obtain ⟨k, q, rfl⟩ := iE_bl h; exact both_tru rfl (se_con pe_bl fun _ _ => .inl (.bl i))
  | .non, X, c, C, W, p, h, w => by obtain ⟨k, q, rfl⟩ := iE_non h; exact both_tru rfl (se_con pe_non fun _ _ => .inl .non)
  | .str i, X, c, C, W, p, h, w => by obtain ⟨k, q, rfl⟩ := iE_str h; exact both_tru rfl (se_con pe_str fun _ _ => .inl (.str i))
  | .gstr n s, X, c, C, W, p, h, w => by
    obtain ⟨q, rfl, k⟩ := iE_gstr h
    rw [Bool.and_eq_true] at k
    exact both_tru rfl (se_gstr w k.1 (of_decide_eq_true k.2))
  | .gint n k, X, c, C, W, p, h, w => by
    obtain ⟨q, rfl, k1, k2⟩ := iE_gint h
    exact both_tru rfl (se_gint w k1 k2)
  | .tup es, X, c, C, W, p, h, w => by
    obtain ⟨l, k, q, rfl, h⟩ := iE_tup h
    have s := se_tup (k := k) (pos := q) (ses_all (snd_Es es h w) (chkEs_star h))
    refine both_tru rfl ?_
    show SE X W _ (fun r => bnd (evEs C es r) _)
    simp only [evEs_eq]
    exact s
  | .bin o a b, X, c, C, W, p, h, w => by
    obtain ⟨x, o', y, q, rfl, k⟩ := iE_bin h
    simp only [Bool.and_eq_true] at k
    have e := beqOp_eq k.1.1
    subst e
    exact both_tru rfl (se_bin w o (snd_E a k.1.2 w).1 (snd_E b k.2 w).1)
  | .neg a, X, c, C, W, p, h, w => by obtain ⟨x, q, rfl, h⟩ := iE_neg h; exact both_tru rfl (se_neg (snd_E a h w).1)
  | .nt a, X, c, C, W, p, h, w => by obtain ⟨x, q, rfl, h⟩ := iE_nt h; exact ⟨se_nt (snd_E a h w).1, st_nt (snd_E a h w).2⟩
  | .and a b, X, c, C, W, p, h, w => by
    obtain ⟨x, y, r, q, rfl, h1, h2⟩ := iE_and h
    have ha := snd_E a h1 w
    have hb : SE X W (.BoolOp .And (y :: r) q) (fun r => (evB C b r).1) ∧ STt X W (.BoolOp .And (y :: r) q) (fun r => (evB C b r).2) := by
      rcases h2 with ⟨rfl, h2⟩ | ⟨_, h2⟩
      · have hb := snd_E b h2 w
        exact ⟨se_one hb.1, st_and1 hb.2⟩
      · exact snd_E b h2 w
    exact ⟨se_and ha.1 hb.1, st_and ha.2 hb.2⟩
  | .or a b, X, c, C, W, p, h, w => by
    obtain ⟨x, y, r, q, rfl, h1, h2⟩ := iE_or h
    have ha := snd_E a h1 w
    have hb : SE X W (.BoolOp .Or (y :: r) q) (fun r => (evB C b r).1) ∧ STt X W (.BoolOp .Or (y :: r) q) (fun r => (evB C b r).2) := by
      rcases h2 with ⟨rfl, h2⟩ | ⟨_, h2⟩
      · have hb := snd_E b h2 w
        exact ⟨se_one hb.1, st_or1 hb.2⟩
      · exact snd_E b h2 w
    exact ⟨se_or ha.1 hb.1, st_or ha.2 hb.2⟩
  | .cmp o a b, X, c, C, W, p, h, w => by
    obtain ⟨x, y, q, rfl, h1, h2, h3⟩ := iE_cmp h
    exact both_cmp w o (snd_E a h1 w).1 (snd_E b h2 w).1 h3
  | .chn o o' a b d, X, c, C, W, p, h, w => by
    obtain ⟨x, y, z, q, rfl, h1, h2, h3, h4⟩ := iE_chn h
    exact both_chn w o o' (snd_E a h1 w).1 (snd_E b h2 w).1 (snd_E d h3 w).1 h4
  | .ite d a b, X, c, C, W, p, h, w => by
    obtain ⟨t, x, y, q, rfl, k⟩ := iE_ite h
    simp only [Bool.and_eq_true] at k
    have hd := snd_E d k.1.1 w
    have ha := snd_E a k.1.2 w
    have hb := snd_E b k.2 w
    exact ⟨se_ite hd.2 ha.1 hb.1, st_ite hd.2 ha.2 hb.2⟩
  | .idx a i, X, c, C, W, p, h, w => by
    obtain ⟨x, y, q, rfl, h1, h2⟩ := iE_idx h
    exact both_tru rfl (se_idx w (snd_E a h1 w).1 (snd_E i h2 w).1 (chkE_slc h2))
  | .slc a lo hi, X, c, C, W, p, h, w => by
    obtain ⟨x, l, u, q2, q, rfl, h1, h2, h3⟩ := iE_slc h
    exact both_tru rfl (se_slc (snd_E a h1 w).1 (snd_O lo h2 w) (snd_O hi h3 w))
  | .rev a, X, c, C, W, p, h, w => by
    obtain ⟨x, k, p1, p2, p3, q, rfl, h⟩ := iE_rev h
    exact both_tru rfl (se_rev (snd_E a h w).1)
  | .atr a f, X, c, C, W, p, h, w => by
    obtain ⟨x, q, rfl, h1, h2⟩ := iE_atr h
    exact both_tru rfl (se_atr w h2 (snd_E a h1 w).1)
  | .mkx n a, X, c, C, W, p, h, w => by
    obtain ⟨p1, x, q, rfl, h1, h2⟩ := iE_mkx h
    exact both_tru rfl (se_mkx w h1 (chkE_star h2) (snd_E a h2 w).1)
  | .mkk n a, X, c, C, W, p, h, w => by
    obtain ⟨p1, x, kp, q, rfl, h1, h2⟩ := iE_mkk h
    exact both_tru rfl (se_mkk w h1 (snd_E a h2 w).1)
  | .isi a cs, X, c, C, W, p, h, w => by
    obtain ⟨n, p1, x, y, q, rfl, h1, h2, h3, h4⟩ := iE_isi h
    exact both_tru rfl (se_isi w h2 h1 (chkE_star h3) h4 (snd_E a h3 w).1)
  | .blt f es, X, c, C, W, p, h, w => by
    obtain ⟨p1, x, l, q, rfl, h1, h2⟩ := iE_blt h
    have s := se_blt w f (q := p1) (pos := q) h1 (chkEs_star h2) (ses_all (snd_Es es h2 w) (chkEs_star h2))
    refine both_tru rfl ?_
    show SE X W _ (fun r => bnd (evEs C es r) _)
    simp only [evEs_eq]
    exact s
  | .txt f a es, X, c, C, W, p, h, w => by
    obtain ⟨x, ap, l, q, rfl, h1, h2, h3, h4, h5⟩ := iE_txt h
    have ha := (snd_E a h1 w).1
    have hs := snd_Es es h2 w
    refine both_tru rfl ?_
    show SE X W _ (fun r => bnd ((evB C a r).1) fun x => bnd (opt (strOf x)) fun z => bnd (evEs C es r) _)
    simp only [evEs_eq]
    cases l with
    | nil =>
      generalize msOf C es = ms at hs
      cases hs
      exact se_txt0 f ha h3 h4
    | cons y l => exact se_txt f ha (chkEs_star h2) h5 h3 h4 (ses_all hs (chkEs_star h2))
  | .cal f es, X, c, C, W, p, h, w => by
    obtain ⟨p1, l, q, rfl, h1, h2⟩ := iE_cal h
    have s := se_cal w (q := p1) (pos := q) h1 (chkEs_star h2) (snd_Es es h2 w)
    refine both_tru rfl ?_
    show SE X W _ (fun r => if C.has f then bnd (evEs C es r) _ else bad)
    simp only [evEs_eq]
    exact s
  | .get a k d, X, c, C, W, p, h, w => se_bad
  | .pop a, X, c, C, W, p, h, w => se_bad
  | .popa a k, X, c, C, W, p, h, w => se_bad
  | .fr f, X, c, C, W, p, h, w => both_tru (chkF_kind (show chkF c f p = true from h)).2.2 (se_fr (snd_F f (show chkF c f p = true from h) w))
  | .mko f, X, c, C, W, p, h, w => both_tru (chkF_kind (show chkF c f p = true from h)).2.2 (se_mko (snd_F f (show chkF c f p = true from h) w))
theorem snd_Es : ∀ (es : Es) {X : Cx} {c : Sc} {C : Ca} {W : WX} {l : List Expr}, chkEs c es l = true → Wd X c C W → AllSE X W l (msOf C es)
  | .nil, X, c, C, W, l, h, w => by rw [iEs_nil h]; exact .nil
  | .cons e es, X, c, C, W, l, h, w => by obtain ⟨x, r, rfl, h1, h2⟩ := iEs_cons h; exact .cons (snd_E e h1 w).1 (snd_Es es h2 w)
theorem snd_O : ∀ (o : Eo) {X : Cx} {c : Sc} {C : Ca} {W : WX} {l : Option Expr}, chkO c o l = true → Wd X c C W → SO X W l (fun r => evO C o r)
  | .non, X, c, C, W, l, h, w => by rw [iO_non h]; exact so_non
  | .som e, X, c, C, W, l, h, w => by obtain ⟨x, rfl, h⟩ := iO_som h; exact so_som (snd_E e h w).1
theorem snd_C : ∀ (o : Eo) {X : Cx} {c : Sc} {C : Ca} {W : WX} {l : List Expr}, chkC c o l = true → Wd X c C W → STs X W l (fun r => evC C o r)
  | .non, X, c, C, W, l, h, w => by rw [iC_non h]; exact sts_nil
  | .som e, X, c, C, W, l, h, w => by obtain ⟨x, rfl, h⟩ := iC_som h; exact sts_one (snd_E e h w).2
theorem snd_F : ∀ (f : Fr) {X : Cx} {c : Sc} {C : Ca} {W : WX} {p : Expr}, chkF c f p = true → Wd X c C W → SF X W p (fun r => evF C f r)
  | .lst es, X, c, C, W, p, h, w => by
    obtain ⟨l, q, rfl, h⟩ := iF_lst h
    have s := sf_lst (pos := q) (ses_all (snd_Es es h w) (chkEs_star h))
    show SF X W _ (fun r => bnd (evEs C es r) _)
    simp only [evEs_eq]
    exact s
  | .dnewK, X, c, C, W, p, h, w => by obtain ⟨q, rfl⟩ := iF_dnewK h; exact sf_dnewK
  | .dnewT, X, c, C, W, p, h, w => by obtain ⟨q, rfl⟩ := iF_dnewT h; exact sf_dnewT
  | .disp ks es, X, c, C, W, p, h, w => by
    obtain ⟨kl, vl, q, rfl, h1, h2, h3, h4, h5⟩ := iF_disp h
    have s := sf_disp (pos := q) h1 h3 h4 h5 (snd_Es es h2 w)
    show SF X W _ (fun r => bnd (evEs C es r) _)
    simp only [evEs_eq]
    exact s
  | .comp own elt t it cs, X, c, C, W, p, h, w => by
    obtain ⟨x, tg, i, ifs, scope, q, rfl, h1, h2, h3, h4, h5, h6, h7⟩ := iF_comp h
    exact sf_comp w h1 h3 h7 h6 (snd_I it h2 w) (fun s H D cl fp => snd_C cs h4 (w.blk s H D cl fp)) (fun s H D cl fp => (snd_E elt h5 (w.blk s H D cl fp)).1)
  | .blt f a, X, c, C, W, p, h, w => by
    obtain ⟨p1, x, q, rfl, h1, h2⟩ := iF_blt h
    exact sf_blt w f h1 (chkE_star h2) (snd_E a h2 w).1
  | .slc a lo hi, X, c, C, W, p, h, w => by
    obtain ⟨x, l, u, q2, q, rfl, h1, h2, h3⟩ := iF_slc h
    exact sf_slc (snd_E a h1 w).1 (snd_O lo h2 w) (snd_O hi h3 w)
  | .bin o a b, X, c, C, W, p, h, w => by
    obtain ⟨x, y, q, rfl, h1, h2⟩ := iF_bin h
    exact sf_bin o (snd_E a h1 w).1 (snd_E b h2 w).1
  | .cal f es, X, c, C, W, p, h, w => by
    obtain ⟨p1, l, q, rfl, h1, h2⟩ := iF_cal h
    have s := sf_cal w (q := p1) (pos := q) h1 (chkEs_star h2) (snd_Es es h2 w)
    show SF X W _ (fun r => if C.has f then bnd (evEs C es r) _ else bad)
    simp only [evEs_eq]
    exact s
theorem snd_I : ∀ (it : It) {X : Cx} {c : Sc} {C : Ca} {W : WX} {cm : Bool} {tg p : Expr}, chkI c it p = true → Wd X c C W → SI X W cm tg p (fun r => evI C cm it r)
  | .seq e, X, c, C, W, cm, tg, p, h, w => si_seq (snd_E e (show chkE c e p = true from h) w).1
  | .rng1 a, X, c, C, W, cm, tg, p, h, w => by
    obtain ⟨p1, x, q, rfl, h1, h2⟩ := iI_rng1 h
    exact si_rng1 w h1 (chkE_star h2) (snd_E a h2 w).1
  | .rng2 a b, X, c, C, W, cm, tg, p, h, w => by
    obtain ⟨p1, x, y, q, rfl, h1, h2, h3⟩ := iI_rng2 h
    exact si_rng2 w h1 (chkE_star h2) (chkE_star h3) (snd_E a h2 w).1 (snd_E b h3 w).1
end
end LG

set_option Elab.async false
set_option linter.all false
set_option maxRecDepth 100000
set_option maxHeartbeats 4000000
/-! G15: statements. -/
namespace LG
open PySem L2
section
variable (K : PySem.W.Frag) (mg : Str → Option Value)
def EnvX (Z : Fz) (G : Gh) (H : Hp) (r : Ev) (σ : L2.St) : Prop := ∃ al, EnvR K mg Z al G H r σ
/-- an outcome within a frame: the frame's own things may change, too -/
def CovZ {α : Type} (E : XK) (Z : Fz) (G : Gh) (H : Hp) (o : Out α) (F : α → Sto → Gh → Hp → Prop) : Prop := match o with
  | .ok a st' => ∀ G' H', Ext Z.G0 Z.H0 G' H' → Keep G H G' H' → StR K mg G' H' st' → F a st' G' H'
  | .exc n x st' => ∀ cls d G' H', Ext Z.G0 Z.H0 G' H' → Keep G H G' H' → StR K mg G' H' st' → XR K mg G' H' n x cls d → E cls d H'
  | .bad => False
/-- what is wanted behind a statement's outcome -/
def KD (Z : Fz) (D : Ends) : Res → Sto → Gh → Hp → Prop
  | .nx r, _, G, H => ∀ σ, EnvX K mg Z G H r σ → D.nx σ H
  | .bk r, _, G, H => ∀ σ, EnvX K mg Z G H r σ → D.bk σ H
  | .ct r, _, G, H => ∀ σ, EnvX K mg Z G H r σ → D.ct σ H
  | .rt x, _, G, H => ∀ v, RR K mg Z.H0 G H x v → D.rt v H
end
section
variable {K : PySem.W.Frag} {mg : Str → Option Value} {Z : Fz} {al : Nat → Option Addr} {G G' G'' : Gh} {H H' H'' : Hp} {r : Ev} {σ : L2.St} {E : XK}
theorem CovZ.cov {α : Type} {o : Out α} {F : α → Sto → Gh → Hp → Prop} (h : CovZ K mg E Z G H o F) (e : Ext Z.G0 Z.H0 G H) : Cov K mg E G H o F := by
  cases o with
  | ok a st' => exact fun G' H' e' s => h G' H' (e.trans e') e'.toKeep s
  | exc n x st' => exact fun cls d G' H' e' s => h cls d G' H' (e.trans e') e'.toKeep s
  | bad => exact h
theorem CovZ.keep {α : Type} {o : Out α} {F : α → Sto → Gh → Hp → Prop} (h : CovZ K mg E Z G H o F) (k : Keep G H G' H') : CovZ K mg E Z G' H' o F := by
  cases o with
  | ok a st' => exact fun G2 H2 e k2 s => h G2 H2 e (k.trans k2) s
  | exc n x st' => exact fun cls d G2 H2 e k2 s => h cls d G2 H2 e (k.trans k2) s
  | bad => exact h
theorem CovZ.bnd {α β : Type} {m : M α} {f : α → M β} {st : Sto} {F : β → Sto → Gh → Hp → Prop} (h : CovZ K mg E Z G H (LG.bnd m f st) F) :
    CovZ K mg E Z G H (m st) (fun a st' G' H' => CovZ K mg E Z G' H' (f a st') F) := by
  unfold LG.bnd at h
  cases e : m st with
  | ok a st' => rw [e] at h; exact fun G' H' _ k _ => CovZ.keep h k
  | exc n x st' => rw [e] at h; exact h
  | bad => rw [e] at h; exact h
theorem CovZ.bnd0 {α β : Type} {m : M α} {f : α → M β} {st : Sto} {F : β → Sto → Gh → Hp → Prop} (h : CovZ K mg E Z G H (LG.bnd m f st) F) :
    CovZ K mg E Z G H (m st) (fun a st' _ _ => CovZ K mg E Z G H (f a st') F) := by
  unfold LG.bnd at h
  cases e : m st with
  | ok a st' => rw [e] at h; exact fun G' H' _ k _ => h
  | exc n x st' => rw [e] at h; exact h
  | bad => rw [e] at h; exact h
theorem CovZ.mono {α : Type} {o : Out α} {F F' : α → Sto → Gh → Hp → Prop} (h : CovZ K mg E Z G H o F) (k : ∀ a st' G' H', Ext Z.G0 Z.H0 G' H' → Keep G H G' H' → StR K mg G' H' st' → F a st' G' H' → F' a st' G' H') : CovZ K mg E Z G H o F' := by
  cases o with
  | ok a st' => exact fun G2 H2 e2 k2 s2 => k a st' G2 H2 e2 k2 s2 (h G2 H2 e2 k2 s2)
  | exc n x st' => exact h
  | bad => exact h
theorem CovZ.ret {α : Type} {a : α} {st : Sto} {F : α → Sto → Gh → Hp → Prop} (h : CovZ K mg E Z G H (LG.ret a st) F) (e : Ext Z.G0 Z.H0 G H) (s : StR K mg G H st) : F a st G H := h G H e .refl s
theorem CovZ.opt {α : Type} {o : Option α} {st : Sto} {F : α → Sto → Gh → Hp → Prop} (h : CovZ K mg E Z G H (LG.opt o st) F) : ∃ a, o = some a ∧ ∀ G' H', Ext Z.G0 Z.H0 G' H' → Keep G H G' H' → StR K mg G' H' st → F a st G' H' := by
  cases o with
  | none => exact h.elim
  | some a => exact ⟨a, rfl, h⟩
theorem EnvX.step (h : EnvX K mg Z G H r σ) (e : Ext G H G' H') : EnvX K mg Z G' H' r σ := let ⟨al, en⟩ := h; ⟨al, en.step e⟩
theorem EnvX.ext (h : EnvX K mg Z G H r σ) : Ext Z.G0 Z.H0 G H := let ⟨_, en⟩ := h; en.ext
/-- a new thing goes into an own slot -/
theorem EnvR.own1 (h : EnvR K mg Z al G H r σ) (e : Ext G H G' H') {i : Nat} {o : Ob} {sl : Sl} {v : V} (f : FR K mg H G' H' o v) (hs : slOf o = some sl) : EnvX K mg Z G' H' (r.set i sl) (σ.set i (some v)) := by
  obtain ⟨a, rfl, ha, hm, hn, ro⟩ := f
  have h' := h.step e
  have old : ∀ j b, al j = some b → b ≠ a := fun j b q z => by
    obtain ⟨_, _, _, o', ho⟩ := h.own j b q
    rw [z, ha] at ho; cases ho
  have sur : ∃ o', H' a = some o' := by cases ro <;> exact ⟨_, by assumption⟩
  refine ⟨fun j => if j = i then some a else al j, ⟨by rw [List.length_set, List.length_set]; exact h.len, fun j s q => ?_, fun j b q => ?_, fun j k b q1 q2 => ?_, h'.ext⟩⟩
  · by_cases ej : i = j
    · subst ej
      by_cases hl : i < r.length
      · rw [List.getElem?_set_self hl] at q; cases q
        rw [List.getElem?_set_self (by rw [h.len]; exact hl)]
        cases ro with
        | lst hh rr => cases hs; exact .l (if_pos rfl) hh rr
        | dk hh rr => cases hs; exact .d (if_pos rfl) hh rr
        | dt hh rr => cases hs
        | ins _ _ _ _ => cases hs
      · rw [List.getElem?_eq_none (by rw [List.length_set]; omega)] at q; cases q
    · rw [List.getElem?_set_ne ej] at q
      rw [List.getElem?_set_ne ej]
      have q2 := h'.at_ j s q
      generalize σ[j]? = ov at q2 ⊢
      cases q2 with
      | e => exact .e
      | v s => exact .v s
      | l ha hh r => exact .l ((if_neg (Ne.symm ej)).trans ha) hh r
      | d ha hh r => exact .d ((if_neg (Ne.symm ej)).trans ha) hh r
  · by_cases ej : j = i
    · simp only [if_pos ej] at q; cases q
      exact ⟨hm, hn, h.ext.fresh ha, sur⟩
    · simp only [if_neg ej] at q
      exact h'.own j b q
  · by_cases e1 : j = i
    · by_cases e2 : k = i
      · rw [e1, e2]
      · simp only [if_pos e1] at q1; simp only [if_neg e2] at q2; cases q1
        exact absurd rfl (old k _ q2)
    · by_cases e2 : k = i
      · simp only [if_neg e1] at q1; simp only [if_pos e2] at q2; cases q2
        exact absurd rfl (old j _ q1)
      · simp only [if_neg e1] at q1; simp only [if_neg e2] at q2
        exact h.inj j k b q1 q2
/-- an own thing is written -/
theorem EnvR.wr (h : EnvR K mg Z al G H r σ) {k : Nat} {a : Addr} {o : HO} {sl : Sl} (ha : al k = some a) (hs : ∀ ov, σ[k]? = ov → SlR K mg Z al G (upd H a o) k sl ov) : EnvR K mg Z al G (upd H a o) (r.set k sl) σ where
  len := by rw [List.length_set]; exact h.len
  at_ := fun j s q => by
    by_cases ej : k = j
    · subst ej
      by_cases hl : k < r.length
      · rw [List.getElem?_set_self hl] at q; cases q
        exact hs _ rfl
      · rw [List.getElem?_eq_none (by rw [List.length_set]; omega)] at q; cases q
    · rw [List.getElem?_set_ne ej] at q
      have q2 := h.at_ j s q
      generalize σ[j]? = ov at q2 ⊢
      have kp : Keep G H G (upd H a o) := keep_upd (h.own k a ha).1
      have ne : ∀ b, al j = some b → b ≠ a := fun b hb z => ej (h.inj k j a ha (z ▸ hb))
      cases q2 with
      | e => exact .e
      | v s => exact .v (s.keep kp)
      | l hb hh r => exact .l hb (by rw [upd_ne (ne _ hb)]; exact hh) (r.keep kp)
      | d hb hh r => exact .d hb (by rw [upd_ne (ne _ hb)]; exact hh) (r.keep kp)
  own := fun j b q => by
    obtain ⟨h1, h2, h3, o', h4⟩ := h.own j b q
    refine ⟨h1, h2, h3, ?_⟩
    by_cases e : b = a
    · exact ⟨o, by rw [e, upd_same]⟩
    · exact ⟨o', by rw [upd_ne e]; exact h4⟩
  inj := h.inj
  ext := ext_upd h.ext (h.own k a ha).2.2.1
/-- an own thing is never written again -/
theorem EnvR.frz (h : EnvR K mg Z al G H r σ) {st : Sto} (s : StR K mg G H st) {k : Nat} {sl : Sl} {x : Vl} (hr : r[k]? = some sl) (hx : (∃ xs, sl = .l xs ∧ x = .lst xs) ∨ ∃ kvs, sl = .d kvs ∧ x = .dk kvs) :
    ∃ G', Ext Z.G0 Z.H0 G' H ∧ Keep G H G' H ∧ StR K mg G' H st ∧ EnvX K mg Z G' H (r.set k (.v x)) σ := by
  obtain ⟨a, ha, rv⟩ : ∃ a, al k = some a ∧ ∀ G', ¬ G'.mt a → Keep G H G' H → ∃ v, σ[k]? = some (some v) ∧ RV K mg G' H x v := by
    rcases hx with ⟨xs, rfl, rfl⟩ | ⟨xs, rfl, rfl⟩
    · obtain ⟨a, us, h1, h2, h3, h4⟩ := h.ownL hr
      exact ⟨a, h1, fun G' n kp => ⟨_, h2, .lst n h3 (h4.keep kp)⟩⟩
    · obtain ⟨a, us, h1, h2, h3, h4⟩ := h.ownD hr
      exact ⟨a, h1, fun G' n kp => ⟨_, h2, .dk n h3 (h4.keep kp)⟩⟩
  obtain ⟨h1, h2, h3, o, h4⟩ := h.own k a ha
  have kp : Keep G H (G.less a h2) H := keep_less h2
  refine ⟨G.less a h2, ext_less h.ext h2 h3, kp, s.less h2, fun j => if j = k then none else al j, ⟨by rw [List.length_set]; exact h.len, fun j s q => ?_, fun j b q => ?_, fun i j b q1 q2 => ?_, ext_less h.ext h2 h3⟩⟩
  · by_cases ej : k = j
    · subst ej
      by_cases hl : k < r.length
      · rw [List.getElem?_set_self hl] at q; cases q
        obtain ⟨v, e1, e2⟩ := rv (G.less a h2) (fun z => z.2 rfl) kp
        rw [e1]
        exact .v (.inl e2)
      · rw [List.getElem?_eq_none (by rw [List.length_set]; omega)] at q; cases q
    · rw [List.getElem?_set_ne ej] at q
      have q2 := h.at_ j s q
      generalize σ[j]? = ov at q2 ⊢
      cases q2 with
      | e => exact .e
      | v s => exact .v (s.keep kp)
      | l hb hh r => exact .l ((if_neg (Ne.symm ej)).trans hb) hh (r.keep kp)
      | d hb hh r => exact .d ((if_neg (Ne.symm ej)).trans hb) hh (r.keep kp)
  · by_cases ej : j = k
    · simp only [if_pos ej] at q; cases q
    · simp only [if_neg ej] at q
      obtain ⟨k1, k2, k3, k4⟩ := h.own j b q
      exact ⟨⟨k1, fun z => ej (h.inj j k a (z ▸ q) ha)⟩, k2, k3, k4⟩
  · by_cases e1 : i = k
    · simp only [if_pos e1] at q1; cases q1
    · by_cases e2 : j = k
      · simp only [if_pos e2] at q2; cases q2
      · simp only [if_neg e1] at q1; simp only [if_neg e2] at q2
        exact h.inj i j b q1 q2
/-- a thing of the store is written -/
theorem ext_obj {G0 : Gh} {H0 : Hp} {a : Addr} {n : Nat} {o o' : HO} (e : Ext G0 H0 G H) (hm : G.mu n = some a) (ha : H a = some o) : Ext G0 H0 G (upd H a o') where
  mu := e.mu
  mt := e.mt
  keep := fun b u h nm => by
    have ne : b ≠ a := fun z => by
      subst z
      rcases e.new n b hm with q | q
      · exact nm n q
      · rw [h] at q; cases q
    rw [upd_ne ne]; exact e.keep b u h nm
  new := e.new
  dom := fun b u h => by
    by_cases z : b = a
    · exact ⟨o', by rw [z, upd_same]⟩
    · rw [upd_ne z]; exact e.dom b u h
theorem StR.wr {st : Sto} {n : Nat} {a : Addr} {o : HO} {ob : Ob} (s : StR K mg G H st) (hm : G.mu n = some a) (ho : OR K mg G (L2.upd H a o) ob a) : StR K mg G (L2.upd H a o) (st.set n ob) where
  at_ := fun i ob' h => by
    have kp : Keep G H G (L2.upd H a o) := keep_upd (G.sub n a hm)
    by_cases q : n = i
    · subst q
      by_cases hl : n < st.length
      · rw [List.getElem?_set_self hl] at h; cases h
        exact ⟨a, hm, ho⟩
      · rw [List.getElem?_eq_none (by rw [List.length_set]; omega)] at h; cases h
    · rw [List.getElem?_set_ne q] at h
      obtain ⟨b, h1, h2⟩ := s.at_ i ob' h
      have ne : b ≠ a := fun z => q (s.inj n i a hm (z ▸ h1))
      exact ⟨b, h1, h2.keepK kp fun u hu => by rw [upd_ne ne]; exact hu⟩
  inj := s.inj
  lim := fun i h => s.lim i (by rw [List.length_set] at h; exact h)
  mtd := fun b q => by
    by_cases e : b = a
    · exact ⟨o, by rw [e, upd_same]⟩
    · obtain ⟨u, hu⟩ := s.mtd b q
      exact ⟨u, by rw [upd_ne e]; exact hu⟩
theorem EnvR.obj (h : EnvR K mg Z al G H r σ) {n : Nat} {a : Addr} {o o' : HO} (hm : G.mu n = some a) (ha : H a = some o') : EnvR K mg Z al G (upd H a o) r σ where
  len := h.len
  at_ := fun j s q => by
    have q2 := h.at_ j s q
    generalize σ[j]? = ov at q2 ⊢
    have kp : Keep G H G (upd H a o) := keep_upd (G.sub n a hm)
    have ne : ∀ b, al j = some b → b ≠ a := fun b hb z => (h.own j b hb).2.1 n (z ▸ hm)
    cases q2 with
    | e => exact .e
    | v s => exact .v (s.keep kp)
    | l hb hh r => exact .l hb (by rw [upd_ne (ne _ hb)]; exact hh) (r.keep kp)
    | d hb hh r => exact .d hb (by rw [upd_ne (ne _ hb)]; exact hh) (r.keep kp)
  own := fun j b q => by
    obtain ⟨h1, h2, h3, o', h4⟩ := h.own j b q
    refine ⟨h1, h2, h3, ?_⟩
    by_cases e : b = a
    · exact ⟨o, by rw [e, upd_same]⟩
    · exact ⟨o', by rw [upd_ne e]; exact h4⟩
  inj := h.inj
  ext := ext_obj h.ext hm ha
end
end LG

set_option Elab.async false
set_option linter.all false
set_option maxRecDepth 100000
set_option maxHeartbeats 4000000
/-! G16: statements' rules. -/
namespace LG
open PySem L2
def rdS (X : Cx) (st : Stmt) : TS := fun D σ H => ∀ (pins : Pn) (s : Shared), Inv X pins σ H s → wpAny (model X.prog X.w) X.A (exec st X.env) (SP X pins D) X.xe s
def rdSs (X : Cx) (l : List Stmt) : TS := fun D σ H => ∀ (pins : Pn) (s : Shared), Inv X pins σ H s → wpAny (model X.prog X.w) X.A (execs l X.env) (SP X pins D) X.xe s
section
variable {X : Cx} {c : Sc} {C : Ca} {x y z : Expr} {pos : Pos} {E : XK} {st : Stmt} {l : List Stmt}
theorem rdS_ps : PS X st (rdS X st) := ⟨fun pins s σ H D I h => h pins s I⟩
theorem rdSs_ps : PSs X l (rdSs X l) := ⟨fun pins s σ H D I h => h pins s I⟩
theorem rdS_of {t : TS} (h : PS X st t) {σ : L2.St} {H : Hp} {D : Ends} (q : t D σ H) : rdS X st D σ H := fun pins s I => h.run pins s σ H D I q
theorem rdSs_of {t : TS} (h : PSs X l t) {σ : L2.St} {H : Hp} {D : Ends} (q : t D σ H) : rdSs X l D σ H := fun pins s I => h.run pins s σ H D I q
abbrev WK (E : XK) : WX := fun cls d _ H => E cls d H
def SS (X : Cx) (E : XK) (st : Stmt) (m : Ev → M Res) : Prop := ∀ (Z : Fz) (r : Ev) (σ : L2.St) (G : Gh) (H : Hp) (s0 : Sto) (D : Ends), EnvX X.K X.mg Z G H r σ → StR X.K X.mg G H s0 →
  CovZ X.K X.mg E Z G H (m r s0) (KD X.K X.mg Z D) → rdS X st D σ H
def SSs (X : Cx) (E : XK) (l : List Stmt) (m : Ev → M Res) : Prop := ∀ (Z : Fz) (r : Ev) (σ : L2.St) (G : Gh) (H : Hp) (s0 : Sto) (D : Ends), EnvX X.K X.mg Z G H r σ → StR X.K X.mg G H s0 →
  CovZ X.K X.mg E Z G H (m r s0) (KD X.K X.mg Z D) → rdSs X l D σ H
/-- the text of a def's own body -/
structure We (X : Cx) (c : Sc) (C : Ca) (E : XK) : Prop where
  wd : Wd X c C (WK E)
  po : PassesOwn (model X.prog X.w) X.A X.env X.xe
  fn : ∀ x, X.fn x = true
  fk : X.env.scope.kind = .function
variable {ma mb : Ev → M Vl} {mf : Ev → M Ob}
theorem SE.run (h : SE X (WK E) x ma) {Z : Fz} {r : Ev} {σ : L2.St} {G : Gh} {H : Hp} {s0 : Sto} {Q : VK} (en : EnvX X.K X.mg Z G H r σ) (hs : StR X.K X.mg G H s0)
    (k : CovZ X.K X.mg E Z G H (ma r s0) (fun x st' G' H' => Ext G H G' H' → EnvX X.K X.mg Z G' H' r σ → ∀ v, RB X.K X.mg G' H' x v → Q v H')) : rdE X x σ H Q := by
  obtain ⟨al, e⟩ := en
  exact h Z al r σ G H s0 Q e hs ((k.cov e.ext).mono fun a st' G' H' e1 s1 q v rv => q e1 ⟨al, e.step e1⟩ v rv)
theorem SF.run (h : SF X (WK E) x mf) {Z : Fz} {r : Ev} {σ : L2.St} {G : Gh} {H : Hp} {s0 : Sto} {Q : VK} (en : EnvX X.K X.mg Z G H r σ) (hs : StR X.K X.mg G H s0)
    (k : CovZ X.K X.mg E Z G H (mf r s0) (fun o st' G' H' => Ext G H G' H' → EnvX X.K X.mg Z G' H' r σ → ∀ v, FR X.K X.mg H G' H' o v → Q v H')) : rdE X x σ H Q := by
  obtain ⟨al, e⟩ := en
  exact h Z al r σ G H s0 Q e hs ((k.cov e.ext).mono fun a st' G' H' e1 s1 q v rv => q e1 ⟨al, e.step e1⟩ v rv)
theorem STt.run {mt : Ev → M Bool} (h : STt X (WK E) x mt) {Z : Fz} {r : Ev} {σ : L2.St} {G : Gh} {H : Hp} {s0 : Sto} {Q : Bool → Hp → Prop} (en : EnvX X.K X.mg Z G H r σ) (hs : StR X.K X.mg G H s0)
    (k : CovZ X.K X.mg E Z G H (mt r s0) (fun b st' G' H' => Ext G H G' H' → EnvX X.K X.mg Z G' H' r σ → Q b H')) : rdT X x σ H Q := by
  obtain ⟨al, e⟩ := en
  exact h Z al r σ G H s0 Q e hs ((k.cov e.ext).mono fun a st' G' H' e1 s1 q => q e1 ⟨al, e.step e1⟩)
theorem SI.run {mi : Ev → M (List Vl)} {cm : Bool} {tg : Expr} (h : SI X (WK E) cm tg x mi) {Z : Fz} {r : Ev} {σ : L2.St} {G : Gh} {H : Hp} {s0 : Sto} {R : L2.It → Hp → Prop} (en : EnvX X.K X.mg Z G H r σ) (hs : StR X.K X.mg G H s0)
    (k : CovZ X.K X.mg E Z G H (mi r s0) (fun xs st' G' H' => Ext G H G' H' → EnvX X.K X.mg Z G' H' r σ → ∀ J, Wk cm X.K X.mg J G' H' xs → R J H')) : rdI X tg x σ H R := by
  obtain ⟨al, e⟩ := en
  exact h Z al r σ G H s0 R e hs ((k.cov e.ext).mono fun a st' G' H' e1 s1 q J w => q e1 ⟨al, e.step e1⟩ J w)
/-- the next: an outcome without effect on the slots -/
theorem KD.nx {Z : Fz} {r : Ev} {σ : L2.St} {G : Gh} {H : Hp} {s0 : Sto} {D : Ends} (h : CovZ X.K X.mg E Z G H (ret (Res.nx r) s0) (KD X.K X.mg Z D)) (en : EnvX X.K X.mg Z G H r σ) (s : StR X.K X.mg G H s0) : D.nx σ H := h.ret en.ext s σ en

/-! ### small statements -/
theorem ss_pass : SS X E (.Pass pos) (fun r => ret (.nx r)) := fun Z r σ G H s0 D en hs h => rdS_of ps_pass (KD.nx h en hs)
theorem ss_brk : SS X E (.Break pos) (fun r => ret (.bk r)) := fun Z r σ G H s0 D en hs h => rdS_of ps_break (h.ret en.ext hs σ en)
theorem ss_cnt : SS X E (.Continue pos) (fun r => ret (.ct r)) := fun Z r σ G H s0 D en hs h => rdS_of ps_continue (h.ret en.ext hs σ en)
theorem ss_retN : SS X E (.Return none pos) (fun _ => ret (.rt (.vl .non))) := fun Z r σ G H s0 D en hs h => rdS_of ps_retN (h.ret en.ext hs _ .non)
theorem ss_ret (ha : SE X (WK E) x ma) : SS X E (.Return (some x) pos) (fun r => bnd (ma r) fun x => if notBor x then ret (.rt (.vl x)) else bad) := by
  intro Z r σ G H s0 D en hs h
  refine rdS_of (ps_ret rdE_pe) (ha.run en hs (h.bnd.mono fun u st1 G1 H1 e1 k1 s1 h1 e2 en1 v rv => ?_))
  by_cases hb : notBor u = true
  · rw [if_pos hb] at h1
    exact h1.ret e1 s1 v (rv.rv hb)
  · rw [if_neg hb] at h1; exact h1.elim
theorem ss_retF (ha : SF X (WK E) x mf) : SS X E (.Return (some x) pos) (fun r => bnd (mf r) fun o => ret (.rt (.fr o))) := by
  intro Z r σ G H s0 D en hs h
  have hx := en.ext
  refine rdS_of (ps_ret rdE_pe) (ha.run en hs (h.bnd.mono fun u st1 G1 H1 e1 k1 s1 h1 e2 en1 v fr => ?_))
  exact h1.ret e1 s1 v (FR.back fr hx)
theorem ss_retO (w : We X c C E) {k : Nat} {n : Str} {q : Pos} (hn : nmB c k n = true) : SS X E (.Return (some (.Name n q)) pos) (fun r => rtO r[k]?) := by
  intro Z r σ G H s0 D en hs h
  obtain ⟨al, en⟩ := en
  refine rdS_of (ps_ret (w.wd.vr hn)) ?_
  have h : CovZ X.K X.mg E Z G H (rtO r[k]? s0) _ := h
  cases e : r[k]? with
  | none => rw [e] at h; exact h.elim
  | some sl =>
    rw [e] at h
    cases sl with
    | l xs =>
      obtain ⟨a, us, h1, h2, h3, h4⟩ := en.ownL e
      obtain ⟨k1, k2, k3, _⟩ := en.own k a h1
      exact ⟨_, h2, CovZ.ret h en.ext hs _ ⟨a, rfl, k3, k1, k2, .lst h3 h4⟩⟩
    | d xs =>
      obtain ⟨a, us, h1, h2, h3, h4⟩ := en.ownD e
      obtain ⟨k1, k2, k3, _⟩ := en.own k a h1
      exact ⟨_, h2, CovZ.ret h en.ext hs _ ⟨a, rfl, k3, k1, k2, .dk h3 h4⟩⟩
    | _ => exact h.elim
theorem noCmp_sw {e : Expr} (h : noCmp e = true) (t : Option Expr) (n : Nat) (env : Env) : swapsWith e t n env = pure false := by
  cases e <;> first | rfl | cases h
theorem ss_exp (ha : SE X (WK E) x ma) (hc : noCmp x = true) : SS X E (.Expr x pos) (fun r => bnd (ma r) fun _ => ret (.nx r)) := by
  intro Z r σ G H s0 D en hs h
  refine rdS_of (ps_expr rdE_pe (noCmp_sw hc _ _ _)) (ha.run en hs (h.bnd.mono fun u st1 G1 H1 e1 k1 s1 h1 e2 en1 v rv => ?_))
  exact KD.nx h1 en1 s1
theorem ss_if {t : Expr} {a b : List Stmt} {mt : Ev → M Bool} {m1 m2 : Ev → M Res} (ht : STt X (WK E) t mt) (ha : SSs X E a m1) (hb : SSs X E b m2) : SS X E (.If t a b pos) (fun r => bnd (mt r) fun k => if k then m1 r else m2 r) := by
  intro Z r σ G H s0 D en hs h
  refine rdS_of (ps_if rdT_pt rdSs_ps rdSs_ps) (ht.run en hs (h.bnd.mono fun u st1 G1 H1 e1 k1 s1 h1 e2 en1 => ?_))
  cases u with
  | true => exact ha Z r σ G1 H1 st1 D en1 s1 h1
  | false => exact hb Z r σ G1 H1 st1 D en1 s1 h1
theorem sss_nil : SSs X E [] (fun r => ret (.nx r)) := fun Z r σ G H s0 D en hs h => rdSs_of pss_nil (KD.nx h en hs)
theorem sss_cons {m1 m2 : Ev → M Res} (ha : SS X E st m1) (hb : SSs X E l m2) : SSs X E (st :: l) (fun r => bnd (m1 r) fun x => seqR x m2) := by
  intro Z r σ G H s0 D en hs h
  refine rdSs_of (pss_cons rdS_ps rdSs_ps) (ha Z r σ G H s0 _ en hs (h.bnd.mono fun u st1 G1 H1 e1 k1 s1 h1 => ?_))
  cases u with
  | nx r' => exact fun σ' en' => hb Z r' σ' G1 H1 st1 D en' s1 h1
  | rt v => exact h1 G1 H1 e1 .refl s1
  | bk r' => exact h1 G1 H1 e1 .refl s1
  | ct r' => exact h1 G1 H1 e1 .refl s1

/-! ### assignments -/
theorem chkT_list {t : T} (h : chkT c t x = true) : isListE x = false := by
  cases t <;> cases x <;> first | rfl | cases h
theorem sw_none {tg : Expr} {env : Env} (h : (isTupE tg && isTupE x) = false) (h2 : isListE tg = false) : swappedStores [tg] x env = pure none := by
  cases tg <;> first | rfl | cases h2 | skip
  cases x <;> first | rfl | cases h
theorem asg_tg (w : We X c C E) {t : T} {tg : Expr} (h : chkT c t tg = true) : PG X tg (gT X.K t) := tg_pg w.wd.nm w.wd.nd w.wd.ar.calm (fun x hx => ⟨by rw [w.wd.sc]; exact locB_ok hx, .inl (w.fn x)⟩) h
/-- a stored value: by any target -/
theorem ps_store (w : We X c C E) {tg : Expr} {g : TG} (hg : PG X tg g) (hst : isStar tg = false) (hp : (noCmp x && !(isTupE tg && isTupE x) && !isListE tg) = true) : PS X (.Assign [tg] x pos) (tAsg (rdE X x) g) := by
  simp only [Bool.and_eq_true, Bool.not_eq_true'] at hp
  exact ps_asg rdE_pe hg (noCmp_sw hp.1.1 _ _ _) (sw_none hp.1.2 hp.2) (by rw [assign_cons hst]; rfl)
theorem ss_asg (w : We X c C E) {t : T} {tg : Expr} (h : chkT c t tg = true) (hp : (noCmp x && !(isTupE tg && isTupE x) && !isListE tg) = true) (ha : SE X (WK E) x ma) :
    SS X E (.Assign [tg] x pos) (fun r => bnd (ma r) fun x => bnd (opt (bindT t x r)) fun r' => ret (.nx r')) := by
  intro Z r σ G H s0 D en hs k
  refine rdS_of (ps_store w (asg_tg w h) (chkT_star h) hp) (ha.run en hs (k.bnd.mono fun u st1 G1 H1 e1 k1 s1 h1 e2 en1 v rv => ?_))
  obtain ⟨r', er, h2⟩ := h1.bnd.opt
  obtain ⟨al, en1⟩ := en1
  exact tg_run (st := st1) er rv en1 fun σ' en' _ => (h2 G1 H1 e1 .refl s1).ret e1 s1 σ' ⟨al, en'⟩
theorem ss_own (w : We X c C E) {i : Nat} {n : Str} {q : Pos} (h1 : c.N[i]? = some n) (h2 : locB c.sc n = true) (hp : (noCmp x && !(isTupE (.Name n q) && isTupE x) && !isListE (.Name n q)) = true) (ha : SF X (WK E) x mf) :
    SS X E (.Assign [.Name n q] x pos) (fun r => bnd (mf r) fun o => opt ((slOf o).map fun sl => .nx (r.set i sl))) := by
  intro Z r σ G H s0 D en hs k
  have ck : chkT c (.nm i) (.Name n q) = true := by show (decide (c.N[i]? = some n) && locB c.sc n) = true; rw [h2, decide_eq_true h1]; rfl
  obtain ⟨al, en0⟩ := id en
  refine rdS_of (ps_store w (asg_tg w ck) rfl hp) (ha.run en hs (k.bnd.mono fun o st1 G1 H1 e1 k1 s1 h1 e2 en1 v fr => ?_))
  obtain ⟨r', er, h2⟩ := h1.opt
  cases es : slOf o with
  | none => rw [es] at er; cases er
  | some sl =>
    rw [es] at er; cases er
    exact h2 G1 H1 e1 .refl s1 _ (en0.own1 e2 fr es)
/-- a list comprehension's value into a plain local -/
theorem cmp_sw (w : We X c C E) {n : Str} {py : Pos} {ln : Nat} (hp : lcA c (.Name n py) x = true) : ∃ elt gs scope q, x = .ListComp elt gs scope q ∧ swapsWith x (some (.Name n py)) ln X.env = pure true ∧ X.env.scope.names.lookup n = some .local := by
  cases x with
  | ListComp elt gs scope q =>
    have hp : (kindF c.sc && decide (c.sc.names.lookup n = some .local) && (py.line == q.line) && !(scope.names.any fun nk => nk.1 == n && (nk.2 == .local || nk.2 == .cell))) = true := hp
    simp only [Bool.and_eq_true, Bool.not_eq_true', decide_eq_true_eq] at hp
    have hl : X.env.scope.names.lookup n = some .local := by rw [w.wd.sc]; exact hp.1.1.2
    exact ⟨elt, gs, scope, q, rfl, sw_true w.fk hl hp.1.2 hp.2, hl⟩
  | _ => cases hp
theorem cmp_F {f : Fr} {elt : Expr} {gs : List Comprehension} {scope : Scope} {q : Pos} (h : chkF c f (.ListComp elt gs scope q) = true) : ∃ own el t it cs, f = .comp own el t it cs := by
  cases f <;> first | exact ⟨_, _, _, _, _, rfl⟩ | cases h
theorem cmp_E {e : LG.E} {elt : Expr} {gs : List Comprehension} {scope : Scope} {q : Pos} (h : chkE c e (.ListComp elt gs scope q) = true) : ∃ f, (e = .fr f ∨ e = .mko f) ∧ chkF c f (.ListComp elt gs scope q) = true := by
  cases e <;> first | exact ⟨_, .inl rfl, h⟩ | exact ⟨_, .inr rfl, h⟩ | cases h
/-- .. its reading, for whatever is done with the new list -/
theorem cmp_read (w : We X c C E) {f : Fr} {k : Nat} {n : Str} {py : Pos} (hk : c.N[k]? = some n) (hf : chkF c f x = true) (hp : lcA c (.Name n py) x = true) :
    ∃ te : TE, PS X (.Assign [.Name n py] x pos) (tAsg te (gName k)) ∧ ∀ (Z : Fz) (al : Nat → Option Addr) (r : Ev) (σ : L2.St) (G : Gh) (H : Hp) (st : Sto) (Q : VK), EnvR X.K X.mg Z al G H r σ → StR X.K X.mg G H st →
      Cov X.K X.mg E G H (evF C f r st) (fun o st' G' H' => ∀ v, FR X.K X.mg H G' H' o v → Q v H') → te σ H Q := by
  obtain ⟨elt, gs, scope, q, rfl, sw, hl⟩ := cmp_sw (ln := pos.line) w hp
  obtain ⟨own, el, t, it, cs, rfl⟩ := cmp_F hf
  obtain ⟨x', tg, i, ifs, sc', q', e1, h1, h2, h3, h4, h5, h6, h7⟩ := iF_comp hf
  cases e1
  exact ⟨_, cs_comp w.wd h1 h3 h6 hk hl sw, fun Z al r σ G H st Q en hs h => comp_read w.wd h7 (snd_I it h2 w.wd) (fun s H D cl fp => snd_C cs h4 (w.wd.blk s H D cl fp)) (fun s H D cl fp => (snd_E el h5 (w.wd.blk s H D cl fp)).1) Z al r σ G H st Q en hs h⟩
theorem ss_ownC (w : We X c C E) {i : Nat} {n : Str} {q : Pos} {f : Fr} (h1 : c.N[i]? = some n) (hf : chkF c f x = true) (hp : lcA c (.Name n q) x = true) :
    SS X E (.Assign [.Name n q] x pos) (fun r => bnd (evF C f r) fun o => opt ((slOf o).map fun sl => .nx (r.set i sl))) := by
  intro Z r σ G H s0 D en hs k
  obtain ⟨te, hps, hte⟩ := cmp_read (pos := pos) w h1 hf hp
  obtain ⟨al, en0⟩ := id en
  refine rdS_of hps (hte Z al r σ G H s0 _ en0 hs ((k.bnd.cov en.ext).mono fun o st1 G1 H1 e2 s1 hh v fr => ?_))
  obtain ⟨r', er, h2⟩ := hh.opt
  cases es : slOf o with
  | none => rw [es] at er; cases er
  | some sl =>
    rw [es] at er; cases er
    exact h2 G1 H1 (en.ext.trans e2) .refl s1 _ (en0.own1 e2 fr es)
theorem ss_asgC (w : We X c C E) {i : Nat} {n : Str} {q : Pos} {f : Fr} (h1 : c.N[i]? = some n) (hf : chkF c f x = true) (hp : lcA c (.Name n q) x = true) :
    SS X E (.Assign [.Name n q] x pos) (fun r => bnd (bnd (evF C f r) frozen) fun x => bnd (opt (bindT (.nm i) x r)) fun r' => ret (.nx r')) := by
  intro Z r σ G H s0 D en hs k
  obtain ⟨te, hps, hte⟩ := cmp_read (pos := pos) w h1 hf hp
  obtain ⟨al, en0⟩ := id en
  refine rdS_of hps (hte Z al r σ G H s0 _ en0 hs ((Cov.bnd0 (Cov.bnd0 (k.cov en.ext))).mono fun o st2 G2 H2 e2 s2 h2 v fr => ?_))
  have h2' : Cov X.K X.mg E G H (opt o.toVl st2) _ := h2
  cases ho : o.toVl with
  | none => rw [ho] at h2'; exact h2'.elim
  | some u =>
    rw [ho] at h2'
    obtain ⟨G3, e3, s3, r3⟩ := frozen_ok ho e2 s2 fr
    have h3 := h2' G3 H2 e3 s3
    obtain ⟨r', er, h4⟩ := (Cov.bnd (Cov.ext h3 e3)).opt s3
    have h5 := h4.ret s3
    refine tg_run (t := .nm i) (st := st2) er r3.rb (en0.step e3) fun σ' en' _ => ?_
    exact h5 σ' ⟨al, en'⟩
end
end LG

set_option Elab.async false
set_option linter.all false
set_option maxRecDepth 100000
set_option maxHeartbeats 4000000
/-! G17: statements that write things, loops. -/
namespace LG
open PySem L2
section
variable {X : Cx} {c : Sc} {C : Ca} {x y z : Expr} {pos : Pos} {E : XK} {st : Stmt} {l : List Stmt} {ma mb md : Ev → M Vl} {mf : Ev → M Ob}
theorem ss_asgM (w : We X c C E) {i : Nat} {n : Str} {q : Pos} {f : Fr} (h1 : c.N[i]? = some n) (hf : chkF c f x = true) (hp : lcA c (.Name n q) x = true) :
    SS X E (.Assign [.Name n q] x pos) (fun r => bnd (bnd (evF C f r) alloc) fun x => bnd (opt (bindT (.nm i) x r)) fun r' => ret (.nx r')) := by
  intro Z r σ G H s0 D en hs k
  obtain ⟨te, hps, hte⟩ := cmp_read (pos := pos) w h1 hf hp
  obtain ⟨al, en0⟩ := id en
  refine rdS_of hps (hte Z al r σ G H s0 _ en0 hs ((Cov.bnd0 (Cov.bnd0 (k.cov en.ext))).mono fun o st2 G2 H2 e2 s2 h2 v fr => ?_))
  obtain ⟨G3, e3, s3, r3⟩ := alloc_ok e2 s2 fr
  have h2' : Cov X.K X.mg E G H (alloc o st2) _ := h2
  have h3 := h2' G3 H2 e3 s3
  obtain ⟨r', er, h4⟩ := (Cov.bnd (Cov.ext h3 e3)).opt s3
  have h5 := h4.ret s3
  refine tg_run (t := .nm i) (st := st2) er r3.rb (en0.step e3) fun σ' en' _ => ?_
  exact h5 σ' ⟨al, en'⟩

/-! ### o[i] = v -/
theorem noCmp_sole {e : Expr} (h : noCmp e = true) (tg : Expr) (n : Nat) (env : Env) : swapsWithSole [tg] e n env = pure false := noCmp_sw h (some tg) n env
theorem set_ok (hu : X.A.units + 1 < cLine) : PSet X (fun o i v H Q => rSetL o i v H Q ∨ rSetD o i v H Q) := by
  intro pins s σ H o i v ov iv u Q I ro ri rv h
  rcases h with h | h
  · exact set_list pins s σ H o i v ov iv u Q I ro ri rv h
  · exact set_dict hu pins s σ H o i v ov iv u Q I ro ri rv h
theorem sub_assign (hn : isSlc y = false) : ∀ (env : Env) v, assign (.Subscript x y pos) env v = (do
      let ov ← holding [v] (eval x env)
      let iv ← holding [v, ov] (eval y env)
      standAt pos
      holding [v, ov, iv] (setItem ov iv v)
      release [v, ov, iv] []) := by
  intro env v
  cases y <;> first | rfl | cases hn
theorem putD_ne {kvs : List (Key × Vl)} {us : List (Key × V)} {G : Gh} {H : Hp} (h : RVk X.K X.mg G H kvs us) (n : kvs.length < sizeLine) : us.length < sizeLine := by rw [← h.length]; exact n
theorem ss_setI (w : We X c C E) {p2 : Pos} (hn : isSlc y = false) (hz : noCmp z = true) (ha : SE X (WK E) x ma) (hb : SE X (WK E) y mb) (hd : SE X (WK E) z md) :
    SS X E (.Assign [.Subscript x y p2] z pos) (fun r => bnd (md r) fun z => bnd (ma r) fun x => bnd (mb r) fun y => fun st => match setIM st x y z with
      | some st' => .ok (.nx r) st'
      | none => .bad) := by
  intro Z r σ G H s0 D en hs k
  have hu : X.A.units + 1 < cLine := by have := w.wd.hu; omega
  refine rdS_of (ps_asg rdE_pe (pg_sub rdE_pe rdE_pe (set_ok hu) (sub_assign hn X.env)) (noCmp_sole hz _ _ _) (by cases z <;> rfl) (by rfl)) ?_
  refine hd.run en hs (k.bnd.mono fun vz st1 G1 H1 e1 k1 s1 h1 e1' en1 v rv => ?_)
  refine ha.run en1 s1 (h1.bnd.mono fun vx st2 G2 H2 e2 k2 s2 h2 e2' en2 v2 rv2 => ?_)
  refine hb.run en2 s2 (h2.bnd.mono fun vy st3 G3 H3 e3 k3 s3 h3 e3' en3 v3 rv3 => ?_)
  have rv' := (rv.ext e2').ext e3'
  have rx := rv2.ext e3'
  cases q : setIM st3 vx vy vz with
  | none => simp only [q] at h3; exact h3.elim
  | some st' =>
    simp only [q] at h3
    obtain ⟨al, en3⟩ := en3
    cases vx with
    | obj n =>
      have q : ((st3[n]?).bind fun o => if notBor vz then (setOb o vy vz).map fun o' => st3.set n o' else none) = some st' := q
      have rx' := rx.rv rfl
      cases rx' with
      | @obj _ a hm =>
        cases e : st3[n]? with
        | none => rw [e] at q; cases q
        | some ob =>
          rw [e] at q
          have q : (if notBor vz then (setOb ob vy vz).map fun o' => st3.set n o' else none) = some st' := q
          by_cases hb : notBor vz = true
          · rw [if_pos hb] at q
            have rz := rv'.rv hb
            obtain ⟨b, hb', ho⟩ := s3.at_ _ _ e
            rw [hm] at hb'; cases hb'
            cases ho with
            | @lst xs _ us hh rr =>
              cases vy with
              | int kk =>
                have q : ((ixN xs.length kk).map fun j => Ob.lst (xs.set j vz)).map (fun o' => st3.set n o') = some st' := q
                cases ej : ixN xs.length kk with
                | none => rw [ej] at q; cases q
                | some j =>
                  rw [ej] at q; cases q
                  cases rb_int rv3
                  refine .inl ⟨a, us, kk, j, rfl, rfl, hh, by rw [← rr.length]; exact ej, ?_⟩
                  have kp : Keep G3 H3 G3 (upd H3 a (.lst (us.set j v))) := keep_upd (G3.sub n a hm)
                  have en4 := en3.obj (o := .lst (us.set j v)) hm hh
                  exact h3 G3 _ en4.ext kp (s3.wr hm (.lst upd_same ((RVs.set rz j rr).keep kp))) σ ⟨al, en4⟩
              | _ => cases q
            | @dk kvs _ us hh rr =>
              have q : ((toKey vy).bind fun k => if kvs.length < sizeLine then some (Ob.dk (putD kvs k vz)) else none).map (fun o' => st3.set n o') = some st' := by
                cases vy <;> exact q
              cases ek : toKey vy with
              | none => rw [ek] at q; cases q
              | some key =>
                rw [ek] at q
                have q : (if kvs.length < sizeLine then some (Ob.dk (putD kvs key vz)) else none).map (fun o' => st3.set n o') = some st' := q
                by_cases hl : kvs.length < sizeLine
                · rw [if_pos hl] at q; cases q
                  cases toKey_ok ek rv3
                  refine .inr ⟨a, _, rfl, DPut.k hh (by rw [← rr.length]; exact hl), ?_⟩
                  have kp : Keep G3 H3 G3 (upd H3 a (.dK (putK us key v))) := keep_upd (G3.sub n a hm)
                  have en4 := en3.obj (o := .dK (putK us key v)) hm hh
                  exact h3 G3 _ en4.ext kp (s3.wr hm (.dk upd_same ((RVk.put rz rr).keep kp))) σ ⟨al, en4⟩
                · rw [if_neg hl] at q; cases q
            | dt _ _ => cases vy <;> cases q
            | ins _ _ _ _ => cases vy <;> cases q
          · rw [if_neg hb] at q; cases q
    | _ => cases q
theorem ownG_ok {k : Nat} {r : Ev} {u : Unit} (h : ownG r[k]? = some u) : (∃ xs, r[k]? = some (.l xs)) ∨ ∃ kvs, r[k]? = some (.d kvs) := by
  cases e : r[k]? with
  | none => rw [e] at h; cases h
  | some sl =>
    rw [e] at h
    cases sl with
    | l xs => exact .inl ⟨xs, rfl⟩
    | d xs => exact .inr ⟨xs, rfl⟩
    | _ => cases h
theorem set_own {Z : Fz} {al : Nat → Option Addr} {G : Gh} {H : Hp} {r : Ev} {σ : L2.St} {k : Nat} {D : Ends} {st : Sto} {vz vy : Vl} {v v3 : V} {a : Addr} (hr : (∃ xs, r[k]? = some (.l xs)) ∨ ∃ kvs, r[k]? = some (.d kvs)) (en : EnvR X.K X.mg Z al G H r σ) (s : StR X.K X.mg G H st)
    (ha : σ[k]? = some (some (.ref a))) (rv : RB X.K X.mg G H vz v) (rv3 : RB X.K X.mg G H vy v3) (h : CovZ X.K X.mg E Z G H (opt (setSM k r vz vy) st) (KD X.K X.mg Z D)) :
    rSetL (.ref a) v3 v H (fun H' => D.nx σ H') ∨ rSetD (.ref a) v3 v H (fun H' => D.nx σ H') := by
  obtain ⟨res, er, hq⟩ := h.opt
  unfold setSM at er
  by_cases hb : notBor vz = true
  · rw [if_pos hb] at er
    have rz := rv.rv hb
    rcases hr with ⟨xs, e⟩ | ⟨kvs, e⟩
    · rw [e] at er
      obtain ⟨a', us, h1, h2, h3, h4⟩ := en.ownL e
      rw [h2] at ha; cases ha
      cases vy with
      | int j =>
        simp only at er
        cases ej : ixN xs.length j with
        | none => rw [ej] at er; cases er
        | some m =>
          rw [ej] at er; cases er
          cases rb_int rv3
          refine .inl ⟨a, us, j, m, rfl, rfl, h3, by rw [← h4.length]; exact ej, ?_⟩
          have kp : Keep G H G (upd H a (.lst (us.set m v))) := keep_upd (en.own k a h1).1
          have en4 := en.wr (o := .lst (us.set m v)) (sl := .l (xs.set m vz)) h1 (fun ov ho => by rw [h2] at ho; subst ho; exact .l h1 upd_same ((RVs.set rz m h4).keep kp))
          exact hq G _ en4.ext kp (s.upd (en.own k a h1).1 (en.own k a h1).2.1) σ ⟨al, en4⟩
      | _ => cases er
    · rw [e] at er
      obtain ⟨a', us, h1, h2, h3, h4⟩ := en.ownD e
      rw [h2] at ha; cases ha
      simp only at er
      cases ek : toKey vy with
      | none => rw [ek] at er; cases er
      | some key =>
        rw [ek] at er
        have er : (if kvs.length < sizeLine then some (Res.nx (r.set k (.d (putD kvs key vz)))) else none) = some res := er
        by_cases hl : kvs.length < sizeLine
        · rw [if_pos hl] at er; cases er
          cases toKey_ok ek rv3
          refine .inr ⟨a, _, rfl, DPut.k h3 (by rw [← h4.length]; exact hl), ?_⟩
          have kp : Keep G H G (upd H a (.dK (putK us key v))) := keep_upd (en.own k a h1).1
          have en4 := en.wr (o := .dK (putK us key v)) (sl := .d (putD kvs key vz)) h1 (fun ov ho => by rw [h2] at ho; subst ho; exact .d h1 upd_same ((RVk.put rz h4).keep kp))
          exact hq G _ en4.ext kp (s.upd (en.own k a h1).1 (en.own k a h1).2.1) σ ⟨al, en4⟩
        · rw [if_neg hl] at er; cases er
  · rw [if_neg hb] at er; cases er
theorem own_addr {Z : Fz} {G : Gh} {H : Hp} {r : Ev} {σ : L2.St} {k : Nat} (en : EnvX X.K X.mg Z G H r σ) (hr : (∃ xs, r[k]? = some (.l xs)) ∨ ∃ kvs, r[k]? = some (.d kvs)) : ∃ a, σ[k]? = some (some (.ref a)) := by
  obtain ⟨al, en⟩ := en
  rcases hr with ⟨xs, e⟩ | ⟨kvs, e⟩
  · obtain ⟨a, us, h1, h2, _⟩ := en.ownL e; exact ⟨a, h2⟩
  · obtain ⟨a, us, h1, h2, _⟩ := en.ownD e; exact ⟨a, h2⟩
theorem ss_setS (w : We X c C E) {k : Nat} {n : Str} {p2 q : Pos} (hk : nmB c k n = true) (hn : isSlc y = false) (hz : noCmp z = true) (hb : SE X (WK E) y mb) (hd : SE X (WK E) z md) :
    SS X E (.Assign [.Subscript (.Name n q) y p2] z pos) (fun r => bnd (opt (ownG r[k]?)) fun _ => bnd (md r) fun z => bnd (mb r) fun y => opt (setSM k r z y)) := by
  intro Z r σ G H s0 D en hs kk
  have hu : X.A.units + 1 < cLine := by have := w.wd.hu; omega
  obtain ⟨_, eg, k0⟩ := kk.bnd.opt
  have hr := ownG_ok eg
  obtain ⟨a, ha⟩ := own_addr en hr
  refine rdS_of (ps_asg rdE_pe (pg_sub (w.wd.vr hk) rdE_pe (set_ok hu) (sub_assign hn X.env)) (noCmp_sole hz _ _ _) (by cases z <;> rfl) (by rfl)) ?_
  refine hd.run en hs (((k0 G H en.ext .refl hs)).bnd.mono fun vz st1 G1 H1 e1 k1 s1 h1 e1' en1 v rv => ⟨_, ha, ?_⟩)
  refine hb.run en1 s1 (h1.bnd.mono fun vy st3 G3 H3 e3 k3 s3 h3 e3' en3 v3 rv3 => ?_)
  obtain ⟨al, en3⟩ := en3
  exact set_own hr en3 s3 ha (rv.ext e3') rv3 h3

/-! ### xs.append(e), xs.insert(i, e) -/
theorem ownL_ok {k : Nat} {r : Ev} {u : Unit} (h : ownL r[k]? = some u) : ∃ xs, r[k]? = some (.l xs) := by
  cases e : r[k]? with
  | none => rw [e] at h; cases h
  | some sl =>
    rw [e] at h
    cases sl with
    | l xs => exact ⟨xs, rfl⟩
    | _ => cases h
theorem ss_app (w : We X c C E) {k : Nat} {n : Str} {ap q p2 : Pos} (hk : nmB c k n = true) (hs1 : isStar x = false) (hl : (ap.endLine == pos.line) = true) (ha : SE X (WK E) x ma) :
    SS X E (.Expr (.Call (.Attribute (.Name n q) "append" ap) [x] [] pos) p2) (fun r => bnd (opt (ownL r[k]?)) fun _ => bnd (ma r) fun x => opt (appM k r x)) := by
  intro Z r σ G H s0 D en hs kk
  obtain ⟨_, eg, k0⟩ := kk.bnd.opt
  obtain ⟨xs, e⟩ := ownL_ok eg
  have k1 := k0 G H en.ext .refl hs
  refine rdS_of (ps_expr (pe_bm PySem.F.plainAttrs_list PySem.F.slot_list_append PySem.F.type_list_append (show MtR X _ _ from mt_append) (w.wd.vr hk) (pa_cons (rdE_pe (p := x)) pa_nil (star_cons hs1)) rfl (noStars_few (l := [x]) (by show (!isStar x && true) = true; rw [hs1]; rfl) (by show 1 < 29; decide)) hl (star_cons hs1) rfl) rfl) ?_
  obtain ⟨al, en0⟩ := id en
  obtain ⟨a, us, h1, h2, h3, h4⟩ := en0.ownL e
  refine ⟨_, h2, .inl ⟨rfl, us, .of h3⟩, ?_⟩
  refine ha.run en hs (k1.bnd.mono fun vx st1 G1 H1 e1 kp1 s1 hh1 e1' en1 v rv => ?_)
  obtain ⟨res, er, hq⟩ := hh1.opt
  unfold appM at er
  by_cases hb : notBor vx = true
  · rw [if_pos hb, e] at er
    simp only at er
    by_cases hz : xs.length < sizeLine
    · rw [if_pos hz] at er; cases er
      have en2 := en0.step e1'
      obtain ⟨a2, us2, g1, g2, g3, g4⟩ := en2.ownL e
      rw [h2] at g2; cases g2
      refine ⟨a, us2, v, rfl, rfl, g3, by rw [← g4.length]; exact hz, ?_⟩
      have kp : Keep G1 H1 G1 (upd H1 a (.lst (us2 ++ [v]))) := keep_upd (en2.own k a g1).1
      have en4 := en2.wr (o := .lst (us2 ++ [v])) (sl := .l (xs ++ [vx])) g1 (fun ov ho => by rw [h2] at ho; subst ho; exact .l g1 upd_same ((g4.append (.one (rv.rv hb))).keep kp))
      exact hq G1 _ en4.ext kp (s1.upd (en2.own k a g1).1 (en2.own k a g1).2.1) σ ⟨al, en4⟩
    · rw [if_neg hz] at er; cases er
  · rw [if_neg hb] at er; cases er
theorem ss_ins (w : We X c C E) {k : Nat} {n : Str} {ap q p2 : Pos} (hk : nmB c k n = true) (hs1 : isStar x = false) (hs2 : isStar y = false) (hl : (ap.endLine == pos.line) = true) (ha : SE X (WK E) x ma) (hbb : SE X (WK E) y mb) :
    SS X E (.Expr (.Call (.Attribute (.Name n q) "insert" ap) [y, x] [] pos) p2) (fun r => bnd (opt (ownL r[k]?)) fun _ => bnd (mb r) fun y => bnd (ma r) fun x => opt (insM k r y x)) := by
  intro Z r σ G H s0 D en hs kk
  obtain ⟨_, eg, k0⟩ := kk.bnd.opt
  obtain ⟨xs, e⟩ := ownL_ok eg
  have k1 := k0 G H en.ext .refl hs
  have ns1 : noStars [x] = true := by show (!isStar x && true) = true; rw [hs1]; rfl
  have ns2 : noStars [y, x] = true := by show (!isStar y && noStars [x]) = true; rw [hs2, ns1]; rfl
  refine rdS_of (ps_expr (pe_bm PySem.F.plainAttrs_list PySem.F.slot_list_insert PySem.F.type_list_insert mt_insert (w.wd.vr hk) (pa_cons (rdE_pe (p := y)) (pa_cons (rdE_pe (p := x)) pa_nil (star_cons hs1)) (star_cons hs2)) rfl (noStars_few (l := [y, x]) ns2 (by show 2 < 29; decide)) hl (star_cons hs2) (noStars_any ns1)) rfl) ?_
  obtain ⟨al, en0⟩ := id en
  obtain ⟨a, us, h1, h2, h3, h4⟩ := en0.ownL e
  refine ⟨_, h2, .inl ⟨rfl, us, .of h3⟩, ?_⟩
  refine hbb.run en hs (k1.bnd.mono fun vy st1 G1 H1 e1 kp1 s1 hh1 e1' en1 v rv => ?_)
  refine ha.run en1 s1 (hh1.bnd.mono fun vx st2 G2 H2 e2 kp2 s2 hh2 e2' en2 v2 rv2 => ?_)
  obtain ⟨res, er, hq⟩ := hh2.opt
  unfold insM at er
  by_cases hb : notBor vx = true
  · rw [if_pos hb, e] at er
    cases vy with
    | int j =>
      simp only at er
      by_cases hz : xs.length < sizeLine ∧ 0 ≤ j ∧ j < 2 ^ 63
      · rw [if_pos hz] at er; cases er
        cases rb_int rv
        have en2 := (en0.step e1').step e2'
        obtain ⟨a2, us2, g1, g2, g3, g4⟩ := en2.ownL e
        rw [h2] at g2; cases g2
        refine ⟨a, us2, j, v2, rfl, rfl, g3, by rw [← g4.length]; exact hz.1, hz.2.1, hz.2.2, ?_⟩
        have kp : Keep G2 H2 G2 (upd H2 a (.lst (us2.take j.toNat ++ [v2] ++ us2.drop j.toNat))) := keep_upd (en2.own k a g1).1
        have en4 := en2.wr (o := .lst (us2.take j.toNat ++ [v2] ++ us2.drop j.toNat)) (sl := .l (insAt xs j vx)) g1 (fun ov ho => by rw [h2] at ho; subst ho; exact .l g1 upd_same ((((g4.take j.toNat).append (.one (rv2.rv hb))).append (g4.drop j.toNat)).keep kp))
        exact hq G2 _ en4.ext kp (s2.upd (en2.own k a g1).1 (en2.own k a g1).2.1) σ ⟨al, en4⟩
      · rw [if_neg hz] at er; cases er
    | _ => cases er
  · rw [if_neg hb] at er; cases er

/-! ### loops -/
theorem lpR_nx {E : XK} {Z : Fz} {G : Gh} {H : Hp} {st : Sto} {D : Ends} {f : Ev → M Res} {y : Res} (h : CovZ X.K X.mg E Z G H (lpR y f st) (KD X.K X.mg Z D)) (e : Ext Z.G0 Z.H0 G H) (s : StR X.K X.mg G H st) :
    KD X.K X.mg Z { D with nx := fun σ' H' => ∃ G' r' st', Keep G H G' H' ∧ EnvX X.K X.mg Z G' H' r' σ' ∧ StR X.K X.mg G' H' st' ∧ CovZ X.K X.mg E Z G' H' (f r' st') (KD X.K X.mg Z D), ct := fun σ' H' => ∃ G' r' st', Keep G H G' H' ∧ EnvX X.K X.mg Z G' H' r' σ' ∧ StR X.K X.mg G' H' st' ∧ CovZ X.K X.mg E Z G' H' (f r' st') (KD X.K X.mg Z D), bk := D.nx } y st G H := by
  cases y with
  | nx r' => exact fun σ' en => ⟨G, r', st, .refl, en, s, h⟩
  | ct r' => exact fun σ' en => ⟨G, r', st, .refl, en, s, h⟩
  | bk r' => exact fun σ' en => (h G H e .refl s) σ' en
  | rt v => exact h G H e .refl s
theorem ss_for (w : We X c C E) {t : T} {tg i : Expr} {b : List Stmt} {mi : Ev → M (List Vl)} {m1 : Ev → M Res} (ht : chkT c t tg = true) (hset : noSet i = true) (hi : SI X (WK E) false tg i mi) (hb : SSs X E b m1) :
    SS X E (.For tg i b [] pos) (fun r => bnd (mi r) fun xs => forL (fun x r => bnd (opt (bindT t x r)) fun r' => m1 r') xs r) := by
  intro Z r σ G H s0 D en hs h
  refine rdS_of (ps_for w.po w.wd.ar.calm rdI_pi (asg_tg w ht) rdSs_ps (noSet_fold hset)) ?_
  refine hi.run en hs (h.bnd.mono fun xs st1 G1 H1 e1 k1 s1 h1 e1' en1 J wk => ?_)
  refine ⟨fun i m σ' H' => m = xs.length - i ∧ i ≤ xs.length ∧ ∃ G' r' st', Keep G1 H1 G' H' ∧ EnvX X.K X.mg Z G' H' r' σ' ∧ StR X.K X.mg G' H' st' ∧ CovZ X.K X.mg E Z G' H' (forL (fun x r => bnd (opt (bindT t x r)) fun r' => m1 r') (xs.drop i) r' st') (KD X.K X.mg Z D),
    ⟨xs.length, by simp, Nat.zero_le _, G1, r, st1, .refl, en1, s1, h1⟩, ?_⟩
  rintro i m σ' H' ⟨rfl, hle, G', r', st', kp, en', s', hcov⟩
  obtain ⟨hstop, hgo⟩ := wk G' H' (by rw [if_neg (by decide)]; exact kp)
  by_cases hlt : i < xs.length
  · obtain ⟨hg, hy⟩ := hgo i xs[i] (by simp [hlt])
    rw [List.drop_eq_getElem_cons hlt] at hcov
    refine .inr ⟨hg, fun σ2 H2 => xs.length - (i + 1) = xs.length - (i + 1) ∧ i + 1 ≤ xs.length ∧ ∃ G' r' st', Keep G1 H1 G' H2 ∧ EnvX X.K X.mg Z G' H2 r' σ2 ∧ StR X.K X.mg G' H2 st' ∧ CovZ X.K X.mg E Z G' H2 (forL (fun x r => bnd (opt (bindT t x r)) fun r' => m1 r') (xs.drop (i + 1)) r' st') (KD X.K X.mg Z D),
      fun σ2 H2 q => ⟨xs.length - (i + 1), by omega, q⟩, fun v H2 y => ?_⟩
    obtain ⟨G2, e2, ss2, rv⟩ := hy v H2 y
    have s2 := ss2 st' s'
    have en2 := en'.step e2
    have hc2 := (CovZ.bnd0 (hcov.keep e2.toKeep)).bnd
    obtain ⟨r3, er, h3⟩ := hc2.opt
    obtain ⟨al2, en2'⟩ := id en2
    refine tg_run (st := st') er rv.rb en2' fun σ3 en3 _ => ?_
    have h4 := h3 G2 H2 en2.ext .refl s2
    refine hb Z r3 σ3 G2 H2 st' _ ⟨al2, en3⟩ s2 (h4.mono fun y st5 G5 H5 e5 k5 s5 h5 => ?_)
    have q := lpR_nx (h5.keep k5) e5 s5
    have up : ∀ {σ6 H6}, (∃ G' r' st', Keep G5 H5 G' H6 ∧ EnvX X.K X.mg Z G' H6 r' σ6 ∧ StR X.K X.mg G' H6 st' ∧ CovZ X.K X.mg E Z G' H6 (forL (fun x r => bnd (opt (bindT t x r)) fun r' => m1 r') (xs.drop (i + 1)) r' st') (KD X.K X.mg Z D)) →
        xs.length - (i + 1) = xs.length - (i + 1) ∧ i + 1 ≤ xs.length ∧ ∃ G' r' st', Keep G1 H1 G' H6 ∧ EnvX X.K X.mg Z G' H6 r' σ6 ∧ StR X.K X.mg G' H6 st' ∧ CovZ X.K X.mg E Z G' H6 (forL (fun x r => bnd (opt (bindT t x r)) fun r' => m1 r') (xs.drop (i + 1)) r' st') (KD X.K X.mg Z D) :=
      fun ⟨G', r', st', kk, q⟩ => ⟨rfl, hlt, G', r', st', ((kp.trans e2.toKeep).trans k5).trans kk, q⟩
    cases y with
    | nx r' => exact fun σ6 en6 => up (q σ6 en6)
    | ct r' => exact fun σ6 en6 => up (q σ6 en6)
    | bk r' => exact q
    | rt v => exact q
  · have ei : i = xs.length := by omega
    subst ei
    rw [List.drop_length] at hcov
    exact .inl ⟨hstop _ (Nat.le_refl _), KD.nx hcov en' s'⟩
theorem ss_whl (w : We X c C E) {t : Expr} {b : List Stmt} {n : Nat} {mt : Ev → M Bool} {m1 : Ev → M Res} (ht : STt X (WK E) t mt) (hb : SSs X E b m1) : SS X E (.While t b [] pos) (fun r => whlN mt m1 n r) := by
  intro Z r σ G H s0 D en hs h
  refine rdS_of (ps_while w.po rdT_pt rdSs_ps) ?_
  refine ⟨fun m σ' H' => ∃ G' r' st', EnvX X.K X.mg Z G' H' r' σ' ∧ StR X.K X.mg G' H' st' ∧ CovZ X.K X.mg E Z G' H' (whlN mt m1 m r' st') (KD X.K X.mg Z D), ⟨n, G, r, s0, en, hs, h⟩, ?_⟩
  rintro m σ' H' ⟨G', r', st', en', s', hcov⟩
  cases m with
  | zero => exact hcov.elim
  | succ m =>
    refine ht.run en' s' ((CovZ.bnd hcov).mono fun k st2 G2 H2 e2 k2 s2 h2 e2' en2 => ?_)
    cases k with
    | false => exact KD.nx h2 en2 s2
    | true =>
      refine ⟨fun σ3 H3 => ∃ G' r' st', EnvX X.K X.mg Z G' H3 r' σ3 ∧ StR X.K X.mg G' H3 st' ∧ CovZ X.K X.mg E Z G' H3 (whlN mt m1 m r' st') (KD X.K X.mg Z D), fun σ3 H3 q => ⟨m, Nat.lt_succ_self _, q⟩, ?_⟩
      refine hb Z r' σ' G2 H2 st2 _ en2 s2 ((CovZ.bnd h2).mono fun y st5 G5 H5 e5 k5 s5 h5 => ?_)
      have q := lpR_nx h5 e5 s5
      cases y with
      | nx r' => exact fun σ6 en6 => let ⟨G', r', st', _, q⟩ := q σ6 en6; ⟨G', r', st', q⟩
      | ct r' => exact fun σ6 en6 => let ⟨G', r', st', _, q⟩ := q σ6 en6; ⟨G', r', st', q⟩
      | bk r' => exact q
      | rt v => exact q

end
end LG

set_option Elab.async false
set_option linter.all false
set_option maxRecDepth 100000
set_option maxHeartbeats 4000000
/-! G18: pairs stored, all statements. -/
namespace LG
open PySem L2
section
variable {X : Cx} {c : Sc} {C : Ca} {x y z : Expr} {pos : Pos} {E : XK} {st : Stmt} {l : List Stmt} {ma mb md : Ev → M Vl} {mf : Ev → M Ob}
theorem sv_run (w : We X c C E) {a : Sv} {p : Expr} (h : chkV c a p = true) (i : Nat) {Z : Fz} {r : Ev} {σ : L2.St} {G : Gh} {H : Hp} {s0 : Sto} {Q : VK} (en : EnvX X.K X.mg Z G H r σ) (hs : StR X.K X.mg G H s0)
    (k : CovZ X.K X.mg E Z G H (evV C a r s0) (fun sl st' G' H' => Ext G H G' H' → EnvX X.K X.mg Z G' H' r σ → ∀ v, (∀ r' σ', EnvX X.K X.mg Z G H r' σ' → EnvX X.K X.mg Z G' H' (r'.set i sl) (σ'.set i (some v))) → Q v H')) : rdE X p σ H Q := by
  cases a with
  | e e =>
    have k : CovZ X.K X.mg E Z G H (bnd ((evB C e r).1) (fun x => if notBor x then ret (Sl.v x) else bad) s0) _ := k
    refine SE.run (snd_E e (show chkE c e p = true from h) w.wd).1 en hs (k.bnd.mono fun u st1 G1 H1 e1 k1 s1 h1 e2 en1 v rv => ?_)
    by_cases hb : notBor u = true
    · rw [if_pos hb] at h1
      exact h1.ret e1 s1 e2 en1 v fun r' σ' ⟨al, en'⟩ => ⟨al, (en'.step e2).setv (rv.rv hb)⟩
    · rw [if_neg hb] at h1; exact h1.elim
  | o f =>
    have k : CovZ X.K X.mg E Z G H (bnd (evF C f r) (fun o => opt (slOf o)) s0) _ := k
    refine SF.run (snd_F f (show chkF c f p = true from h) w.wd) en hs (k.bnd.mono fun o st1 G1 H1 e1 k1 s1 h1 e2 en1 v fr => ?_)
    obtain ⟨sl, es, h2⟩ := h1.opt
    exact h2 G1 H1 e1 .refl s1 e2 en1 v fun r' σ' ⟨al, en'⟩ => en'.own1 e2 fr es
theorem sw_par {env : Env} {n m : Str} {px py pt pt2 : Pos} {kt k2 : Nat} (hk : env.scope.kind = .function) (hx : env.scope.names.lookup n = some .local) (hy : env.scope.names.lookup m = some .local) (hl : px.line = py.line) (hne : n ≠ m)
    (hst : noStars [x, y] = true) (hf : ([x, y].all (foldedForSure 8)) = false) (hc : ([x, y].all (constantsAlone 8)) = false) :
    swappedStores [.Tuple [.Name n px, .Name m py] kt pt] (.Tuple [x, y] k2 pt2) env = pure (some [n, m]) := by
  have hb : env.blockKind = .function := by unfold Env.blockKind; rw [hk]; rfl
  have k1 : env.kindOf n = some .local := hx
  have k2' : env.kindOf m = some .local := hy
  have s1 : isStar x = false ∧ isStar y = false := by
    have h1 : (!isStar x && (!isStar y && true)) = true := hst
    simp only [Bool.and_eq_true, Bool.not_eq_true'] at h1
    exact ⟨h1.1, h1.2.1⟩
  have hany : ∀ f : Expr → Bool, f x = false → f y = false → [x, y].any f = false := fun f a b => by rw [List.any_cons, List.any_cons, a, b]; rfl
  have e1 : (n == m) = false := beq_eq_false_iff_ne.mpr hne
  have e2 : (m == n) = false := beq_eq_false_iff_ne.mpr (Ne.symm hne)
  unfold swappedStores
  simp only [hb, hf, hc, k1, k2', Expr.pos, List.filterMap_cons, List.filterMap_nil, List.head?_cons, Option.map_some, Option.getD_some, hl, beq_self_eq_true, Bool.and_self, if_true, List.length_cons, List.length_nil, List.eraseDups_cons, List.eraseDups_nil, List.filter_cons, List.filter_nil, e1, e2]
  rw [if_neg (by decide), if_neg, if_neg, if_neg (by decide), if_neg (by decide)]
  · simp [List.eraseDups_cons]
  · rw [hany]
    · exact Bool.false_ne_true
    · cases x <;> first | rfl | cases s1.1
    · cases y <;> first | rfl | cases s1.2
theorem ss_par (w : We X c C E) {i j : Nat} {n m : Expr} {a b : Sv} {pt pt2 : Pos} {kt k2 : Nat} (hp : parB c i j n m = true) (ha : chkV c a x = true) (hb : chkV c b y = true) (hst : noStars [x, y] = true) (hf : ([x, y].all (foldedForSure 8)) = false) (hc : ([x, y].all (constantsAlone 8)) = false) :
    SS X E (.Assign [.Tuple [n, m] kt pt] (.Tuple [x, y] k2 pt2) pos) (fun r => bnd (evV C a r) fun x => bnd (evV C b r) fun y => if i != j then ret (.nx ((r.set i x).set j y)) else bad) := by
  intro Z r σ G H s0 D en hs h
  cases n with
  | Name x' px =>
    cases m with
    | Name y' py =>
      have hp : ((match c.sc.kind with | .function => true | _ => false) && decide (c.N[i]? = some x') && decide (c.N[j]? = some y') && decide (c.sc.names.lookup x' = some .local) && decide (c.sc.names.lookup y' = some .local) && decide (px.line = py.line) && decide (i ≠ j)) = true := hp
      simp only [Bool.and_eq_true, decide_eq_true_eq] at hp
      obtain ⟨⟨⟨⟨⟨⟨_, h1⟩, h2⟩, h3⟩, h4⟩, h5⟩, h6⟩ := hp
      have hi : X.N[i]? = some x' := by rw [w.wd.nm]; exact h1
      have hj : X.N[j]? = some y' := by rw [w.wd.nm]; exact h2
      have hne : x' ≠ y' := fun e => by
        subst e
        exact h6 (nodup_ix w.wd.nd hi hj)
      have hlx : X.env.scope.names.lookup x' = some .local := by rw [w.wd.sc]; exact h3
      have hly : X.env.scope.names.lookup y' = some .local := by rw [w.wd.sc]; exact h4
      have ns : isStar x = false ∧ isStar y = false := by
        have q : (!isStar x && (!isStar y && true)) = true := hst
        simp only [Bool.and_eq_true, Bool.not_eq_true'] at q
        exact ⟨q.1, q.2.1⟩
      refine rdS_of (ps_par w.wd.ar.calm w.wd.nd hi hj h6 hlx hly (pa_cons (rdE_pe (p := x)) (pa_cons (rdE_pe (p := y)) pa_nil (star_cons ns.2)) (star_cons ns.1)) (sw_par w.fk hlx hly h5 hne hst hf hc) rfl) ?_
      refine sv_run w ha i en hs (h.bnd.mono fun s1 st1 G1 H1 e1 k1 ss1 hh1 e1' en1 v p1 => ?_)
      refine sv_run w hb j en1 ss1 (hh1.bnd.mono fun s2 st2 G2 H2 e2 k2 ss2 hh2 e2' en2 v2 p2 => ?_)
      have hij : (i != j) = true := by rw [bne_iff_ne]; exact h6
      rw [if_pos hij] at hh2
      exact ⟨v, v2, rfl, KD.nx hh2 (p2 _ _ (p1 _ _ en)) ss2⟩
    | _ => cases hp
  | _ => cases hp
theorem sss_frz {i : Nat} {m2 : Ev → M Res} (hb : SSs X E l m2) : SSs X E l (fun r => bnd (opt (frzM i r)) fun x => seqR x m2) := by
  intro Z r σ G H s0 D en hs h
  obtain ⟨res, er, h2⟩ := (CovZ.bnd0 h).opt
  have h3 := h2 G H en.ext .refl hs
  obtain ⟨al, en⟩ := en
  have go : ∀ {sl : Sl} {x : Vl}, r[i]? = some sl → ((∃ xs, sl = .l xs ∧ x = .lst xs) ∨ ∃ kvs, sl = .d kvs ∧ x = .dk kvs) → res = .nx (r.set i (.v x)) → rdSs X l D σ H := fun {sl x} hr hx e => by
    subst e
    obtain ⟨G', e1, k1, s1, en'⟩ := en.frz hs hr hx
    exact hb Z _ σ G' H s0 D en' s1 (CovZ.keep h3 k1)
  cases e : r[i]? with
  | none => unfold frzM at er; rw [e] at er; cases er
  | some sl =>
    unfold frzM at er
    rw [e] at er
    cases sl with
    | l xs => cases er; exact go e (.inl ⟨xs, rfl, rfl⟩) rfl
    | d xs => cases er; exact go e (.inr ⟨xs, rfl, rfl⟩) rfl
    | _ => cases er
end

/-! ### all statements -/
section
variable {c : Sc} {p : Stmt}
theorem iS_asg {t : T} {e : E} (h : chkS c (.asg t e) p = true) : ∃ tg x q, p = .Assign [tg] x q ∧ chkT c t tg = true ∧ chkE c e x = true ∧ plainA c tg x = true := by
  cases p with
  | Assign ts x q => cases ts with
    | nil => cases h
    | cons tg ts => cases ts with
      | cons _ _ => cases h
      | nil =>
        have h : (chkT c t tg && chkE c e x && plainA c tg x) = true := h
        simp only [Bool.and_eq_true] at h
        exact ⟨tg, x, q, rfl, h.1.1, h.1.2, h.2⟩
  | _ => cases h
theorem iS_own {i : Nat} {f : Fr} (h : chkS c (.ownA i f) p = true) : ∃ n p1 x q, p = .Assign [.Name n p1] x q ∧ c.N[i]? = some n ∧ locB c.sc n = true ∧ chkF c f x = true ∧ plainA c (.Name n p1) x = true := by
  cases p with
  | Assign ts x q => cases ts with
    | nil => cases h
    | cons tg ts => cases ts with
      | cons _ _ => cases tg <;> cases h
      | nil => cases tg with
        | Name n p1 =>
          have h : (decide (c.N[i]? = some n) && locB c.sc n && chkF c f x && plainA c (.Name n p1) x) = true := h
          simp only [Bool.and_eq_true, decide_eq_true_eq] at h
          exact ⟨n, p1, x, q, rfl, h.1.1.1, h.1.1.2, h.1.2, h.2⟩
        | _ => cases h
  | _ => cases h
theorem iS_par {i j : Nat} {a b : Sv} (h : chkS c (.par i j a b) p = true) : ∃ x y k1 p1 u v k2 p2 q, p = .Assign [.Tuple [x, y] k1 p1] (.Tuple [u, v] k2 p2) q ∧ parB c i j x y = true ∧ chkV c a u = true ∧ chkV c b v = true ∧ [u, v].all (foldedForSure 8) = false ∧ [u, v].all (constantsAlone 8) = false := by
  unfold chkS at h
  split at h
  all_goals first | (cases h; done) | skip
  all_goals rename_i e1
  all_goals first
    | (cases e1; simp only [Bool.and_eq_true, Bool.not_eq_true'] at h; exact ⟨_, _, _, _, _, _, _, _, _, rfl, h.1.1.1.1, h.1.1.1.2, h.1.1.2, h.1.2, h.2⟩)
    | (cases e1)
theorem iS_setI {o i v : E} (h : chkS c (.setI o i v) p = true) : ∃ x y p1 z q, p = .Assign [.Subscript x y p1] z q ∧ chkE c o x = true ∧ chkE c i y = true ∧ chkE c v z = true ∧ noCmp z = true := by
  unfold chkS at h
  split at h
  all_goals first | (cases h; done) | skip
  all_goals rename_i e1
  all_goals first
    | (cases e1; simp only [Bool.and_eq_true] at h; exact ⟨_, _, _, _, _, rfl, h.1.1.1, h.1.1.2, h.1.2, h.2⟩)
    | (cases e1)
theorem iS_setS {k : Nat} {i v : E} (h : chkS c (.setS k i v) p = true) : ∃ n p0 y p1 z q, p = .Assign [.Subscript (.Name n p0) y p1] z q ∧ nmB c k n = true ∧ chkE c i y = true ∧ chkE c v z = true ∧ noCmp z = true := by
  unfold chkS at h
  split at h
  all_goals first | (cases h; done) | skip
  all_goals rename_i e1
  all_goals first
    | (cases e1; simp only [Bool.and_eq_true] at h; exact ⟨_, _, _, _, _, _, rfl, h.1.1.1, h.1.1.2, h.1.2, h.2⟩)
    | (cases e1)
theorem iS_app {k : Nat} {e : E} (h : chkS c (.app k e) p = true) : ∃ n p0 ap x q p1, p = .Expr (.Call (.Attribute (.Name n p0) "append" ap) [x] [] q) p1 ∧ nmB c k n = true ∧ chkE c e x = true ∧ (ap.endLine == q.line) = true := by
  unfold chkS at h
  split at h
  all_goals first | (cases h; done) | skip
  all_goals rename_i e1
  all_goals first
    | (cases e1; simp only [Bool.and_eq_true, decide_eq_true_eq] at h; obtain ⟨⟨⟨h1, h2⟩, h3⟩, h4⟩ := h; subst h2; exact ⟨_, _, _, _, _, _, rfl, h1, h3, h4⟩)
    | (cases e1)
theorem iS_ins {k : Nat} {i e : E} (h : chkS c (.ins k i e) p = true) : ∃ n p0 ap y x q p1, p = .Expr (.Call (.Attribute (.Name n p0) "insert" ap) [y, x] [] q) p1 ∧ nmB c k n = true ∧ chkE c i y = true ∧ chkE c e x = true ∧ (ap.endLine == q.line) = true := by
  unfold chkS at h
  split at h
  all_goals first | (cases h; done) | skip
  all_goals rename_i e1
  all_goals first
    | (cases e1; simp only [Bool.and_eq_true, decide_eq_true_eq] at h; obtain ⟨⟨⟨⟨h1, h2⟩, h3⟩, h4⟩, h5⟩ := h; subst h2; exact ⟨_, _, _, _, _, _, _, rfl, h1, h3, h4, h5⟩)
    | (cases e1)
end
mutual
theorem snd_S : ∀ (s : S) {X : Cx} {c : Sc} {C : Ca} {E : XK} {p : Stmt}, chkS c s p = true → We X c C E → SS X E p (fun r => evS C s r)
  | .asg t e, X, c, C, E, p, h, w => by
    obtain ⟨tg, x, q, rfl, h1, h2, h3⟩ := iS_asg h
    have se := snd_E e h2 w.wd
    by_cases hp : (noCmp x && !(isTupE tg && isTupE x) && !isListE tg) = true
    · exact ss_asg w h1 hp se.1
    · have h3 : ((noCmp x && !(isTupE tg && isTupE x) && !isListE tg) || lcA c tg x) = true := h3
      rw [Bool.or_eq_true] at h3
      rcases h3 with h3 | h3
      · exact absurd h3 hp
      · cases tg with
        | Name n py =>
          cases x with
          | ListComp elt gs scope q2 =>
            cases t with
            | nm i =>
              have h1' : (decide (c.N[i]? = some n) && locB c.sc n) = true := h1
              rw [Bool.and_eq_true] at h1'
              obtain ⟨f, rfl | rfl, hf⟩ := cmp_E h2
              · exact ss_asgC w (of_decide_eq_true h1'.1) hf h3
              · exact ss_asgM w (of_decide_eq_true h1'.1) hf h3
            | tp _ => cases h1
          | _ => cases h3
        | _ => cases x <;> cases h3
  | .ownA i f, X, c, C, E, p, h, w => by
    obtain ⟨n, p1, x, q, rfl, h1, h2, h3, h4⟩ := iS_own h
    by_cases hp : (noCmp x && !(isTupE (.Name n p1) && isTupE x) && !isListE (.Name n p1)) = true
    · exact ss_own w h1 h2 hp (snd_F f h3 w.wd)
    · have h4 : ((noCmp x && !(isTupE (.Name n p1) && isTupE x) && !isListE (.Name n p1)) || lcA c (.Name n p1) x) = true := h4
      rw [Bool.or_eq_true] at h4
      rcases h4 with h4 | h4
      · exact absurd h4 hp
      · exact ss_ownC w h1 h3 h4
  | .par i j a b, X, c, C, E, p, h, w => by
    obtain ⟨x, y, k1, p1, u, v, k2, p2, q, rfl, h1, h2, h3, h4, h5⟩ := iS_par h
    have n1 : ∀ {a : Sv} {u : Expr}, chkV c a u = true → isStar u = false := fun {a u} hh => by
      cases a with
      | e e => exact chkE_star (show chkE c e u = true from hh)
      | o f => exact (chkF_kind (show chkF c f u = true from hh)).1
    exact ss_par w h1 h2 h3 (by show (!isStar u && (!isStar v && true)) = true; rw [n1 h2, n1 h3]; rfl) h4 h5
  | .setI o i v, X, c, C, E, p, h, w => by
    obtain ⟨x, y, p1, z, q, rfl, h1, h2, h3, h4⟩ := iS_setI h
    exact ss_setI w (chkE_slc h2) h4 (snd_E o h1 w.wd).1 (snd_E i h2 w.wd).1 (snd_E v h3 w.wd).1
  | .setD o i v, X, c, C, E, p, h, w => fun Z r σ G H s0 D en hs h => h.elim
  | .setA o f v, X, c, C, E, p, h, w => fun Z r σ G H s0 D en hs h => h.elim
  | .setS k i v, X, c, C, E, p, h, w => by
    obtain ⟨n, p0, y, p1, z, q, rfl, h1, h2, h3, h4⟩ := iS_setS h
    exact ss_setS w h1 (chkE_slc h2) h4 (snd_E i h2 w.wd).1 (snd_E v h3 w.wd).1
  | .app k e, X, c, C, E, p, h, w => by
    obtain ⟨n, p0, ap, x, q, p1, rfl, h1, h2, h3⟩ := iS_app h
    exact ss_app w h1 (chkE_star h2) h3 (snd_E e h2 w.wd).1
  | .appo o e, X, c, C, E, p, h, w => fun Z r σ G H s0 D en hs h => h.elim
  | .ins k i e, X, c, C, E, p, h, w => by
    obtain ⟨n, p0, ap, y, x, q, p1, rfl, h1, h2, h3, h4⟩ := iS_ins h
    exact ss_ins w h1 (chkE_star h3) (chkE_star h2) h4 (snd_E e h3 w.wd).1 (snd_E i h2 w.wd).1
  | .exp e, X, c, C, E, p, h, w => by
    cases p with
    | Expr x q =>
      have h : (chkE c e x && noCmp x) = true := h
      rw [Bool.and_eq_true] at h
      exact ss_exp (snd_E e h.1 w.wd).1 h.2
    | _ => cases h
  | .ret e, X, c, C, E, p, h, w => by
    cases p with
    | Return o q =>
      cases o with
      | none => cases h
      | some x => exact ss_ret (snd_E e (show chkE c e x = true from h) w.wd).1
    | _ => cases h
  | .retF f, X, c, C, E, p, h, w => by
    cases p with
    | Return o q =>
      cases o with
      | none => cases h
      | some x => exact ss_retF (snd_F f (show chkF c f x = true from h) w.wd)
    | _ => cases h
  | .retO k, X, c, C, E, p, h, w => by
    cases p with
    | Return o q =>
      cases o with
      | none => cases h
      | some x =>
        cases x with
        | Name n p1 => exact ss_retO w h
        | _ => cases h
    | _ => cases h
  | .retN, X, c, C, E, p, h, w => by
    cases p with
    | Return o q =>
      cases o with
      | none => exact ss_retN
      | some x => cases h
    | _ => cases h
  | .ite d a b, X, c, C, E, p, h, w => by
    cases p with
    | If t l1 l2 q =>
      have h : (chkE c d t && chkSs c a l1 && chkSs c b l2) = true := h
      simp only [Bool.and_eq_true] at h
      exact ss_if (snd_E d h.1.1 w.wd).2 (snd_Ss a h.1.2 w) (snd_Ss b h.2 w)
    | _ => cases h
  | .forr t it b, X, c, C, E, p, h, w => by
    cases p with
    | For tg i l1 l2 q =>
      cases l2 with
      | cons _ _ => cases h
      | nil =>
        have h : (chkT c t tg && chkI c it i && chkSs c b l1 && noSet i) = true := h
        simp only [Bool.and_eq_true] at h
        exact ss_for w h.1.1.1 h.2 (snd_I it h.1.1.2 w.wd) (snd_Ss b h.1.2 w)
    | _ => cases h
  | .whl d b, X, c, C, E, p, h, w => by
    cases p with
    | While t l1 l2 q =>
      cases l2 with
      | cons _ _ => cases h
      | nil =>
        have h : (chkE c d t && chkSs c b l1) = true := h
        simp only [Bool.and_eq_true] at h
        exact ss_whl w (snd_E d h.1 w.wd).2 (snd_Ss b h.2 w)
    | _ => cases h
  | .brk, X, c, C, E, p, h, w => by
    cases p with
    | Break q => exact ss_brk
    | _ => cases h
  | .cnt, X, c, C, E, p, h, w => by
    cases p with
    | Continue q => exact ss_cnt
    | _ => cases h
  | .pass, X, c, C, E, p, h, w => by
    cases p with
    | Pass q => exact ss_pass
    | _ => cases h
  | .frz i, X, c, C, E, p, h, w => by cases p <;> cases h
theorem snd_Ss : ∀ (ss : Ss) {X : Cx} {c : Sc} {C : Ca} {E : XK} {l : List Stmt}, chkSs c ss l = true → We X c C E → SSs X E l (fun r => evSs C ss r)
  | .nil, X, c, C, E, l, h, w => by
    cases l with
    | nil => exact sss_nil
    | cons _ _ => cases h
  | .cons s ss, X, c, C, E, l, h, w => by
    by_cases q : ∃ i, s = .frz i
    · obtain ⟨i, rfl⟩ := q
      exact sss_frz (snd_Ss ss (show chkSs c ss l = true from h) w)
    · cases l with
      | nil => cases s <;> first | (cases h; done) | exact absurd ⟨_, rfl⟩ q
      | cons p l =>
        have h : (chkS c s p && chkSs c ss l) = true := by
          cases s <;> first | exact h | exact absurd ⟨_, rfl⟩ q
        rw [Bool.and_eq_true] at h
        exact sss_cons (snd_S s h.1 w) (snd_Ss ss h.2 w)
end
end LG

set_option Elab.async false
set_option linter.all false
set_option maxRecDepth 100000
set_option maxHeartbeats 4000000
/-! G18e: the program's errors: their making. -/
namespace LG
open PySem L2 PySem.Spec PyProof.Rows
/-- what the errors' base class says of __init__ -/
structure LgeC (K : PySem.W.Frag) (C0 : Addr) : Prop where
  rd : PySem.W.readsIn K C0 (.type "type") = true
  sp : PySem.W.specialIn K (.ref C0) "__getattribute__" = some (some (.builtin "type.__getattribute__"))
  fi : PySem.W.findCls K (.ref C0) (.type "type") "__init__" = some (.val (.builtin "ValueError.__init__"))
def lgeB (K : PySem.W.Frag) (C0 : Addr) : Bool := PySem.W.readsIn K C0 (.type "type") && (decide (PySem.W.specialIn K (.ref C0) "__getattribute__" = some (some (.builtin "type.__getattribute__"))) && (match PySem.W.findCls K (.ref C0) (.type "type") "__init__" with
  | some (.val (.builtin b)) => decide (b = "ValueError.__init__")
  | _ => false))
theorem lgeB_ok {K : PySem.W.Frag} {C0 : Addr} (h : lgeB K C0 = true) : LgeC K C0 := by
  unfold lgeB at h
  rw [Bool.and_eq_true, Bool.and_eq_true] at h
  obtain ⟨h1, h2, h3⟩ := h
  refine ⟨h1, of_decide_eq_true h2, ?_⟩
  split at h3
  · rename_i b e
    rw [e, of_decide_eq_true h3]
  · cases h3
/-- a method's call on one line, its parts -/
theorem mcall_eq {env : Env} {o : Expr} {name : Str} {apos pos : Pos} {args : List Expr} (hbase : attributeBase o name env (eval o env) = eval o env)
    (hfew : ((backTo pos (starEach args env)).all (fun x => !x.1) && (backToKw pos (keywordEach [] env)).all (fun x => x.1.isSome)
      && decide (args.length + ([] : List Keyword).length + (if ([] : List Keyword).isEmpty then 0 else 1) < 30)) = true) (hline : (apos.endLine == pos.line) = true) :
    eval (.Call (.Attribute o name apos) args [] pos) env = (do
      let ov ← eval o env
      standAt apos.atName
      let (f, first) ← holding [ov] (getMethod ov name (do return (← importBound o env).getD true))
      callWith pos f first (backTo pos (starEach args env)) (backToKw pos (keywordEach [] env))) := by
  rw [arm_eval_Call, hbase]
  have hform : methodCallForm (args.length + ([] : List Keyword).length) (backTo pos (starEach args env)) (backToKw pos (keywordEach [] env)) = true := hfew
  have hpos : methodCallPos true o env apos pos = pure pos := by unfold methodCallPos; simp [hline]
  unfold methodCall
  rw [hform, hpos]
  rfl
theorem pe_leinit {X : Cx} {x : Str} {C0 : Addr} {p1 p2 pos : Pos} {e : Expr} {es : List Expr} {ta : TA} {pl : Sem Bool} (T : LgeC X.K C0) (hg : Gl X x) (hm : X.mg x = some (.ref C0)) (hdb : (x == ("__debug__" : Str)) = false) (ha : PA X (e :: es) ta)
    (hc : eval (.Call (.Attribute (.Name x p1) "__init__" p2) (e :: es) [] pos) X.env = (do
      let ov ← eval (.Name x p1) X.env
      standAt p2.atName
      let (f, first) ← holding [ov] (getMethod ov "__init__" pl)
      callWith pos f first (backTo pos (starEach (e :: es) X.env)) (backToKw pos (keywordEach [] X.env))) := by rfl)
    (he : starEach (e :: es) X.env = (false, eval e X.env) :: starEach es X.env) (hpl : (backTo pos (starEach es X.env)).any (·.1) = false) :
    PE X (.Call (.Attribute (.Name x p1) "__init__" p2) (e :: es) [] pos) (tVeI X.K ta) := by
  refine ⟨fun pins s σ H Q I h => ?_⟩
  refine PySem.W.methodCall_KW (ld_glob I hg hm ?_ hdb) hc
  refine PySem.W.method_cls I.kIn T.sp (PySem.W.cls_value I.kIn T.rd T.fi (by decide +kernel) ?_)
  show wpAny _ _ (callWith pos (Value.builtin "ValueError.__init__") [] (backTo pos (starEach (e :: es) X.env)) []) _ _ _
  refine PyProof.Rows.callWith_method1 (thn (ha.run pos pins _ σ H _ (I.tok _) h) fun us s1 ⟨vs, H1, I1, r1, a, C, ws, ev, hl, T, ea, q⟩ => ?_) he hpl
  subst ev
  cases r1 with
  | @cons _ u0 _ ur ra rw' =>
    obtain rfl : u0 = Value.ref a := ra
    exact oinit_ok T I1 ea (by rw [← Paired.length rw', sizeLine_eq]; omega) fun s' J => ⟨.non, H1, J, rfl, q⟩
end LG
namespace LG
open PySem L2 PySem.Spec PyProof.Rows
def iniE (pre : Str) : LG.E := .bin .add (.str pre) (.blt .repr (.cons (.var 1) .nil))
/-- base.__init__(self, pre + repr(n)); self.f = n -/
def iniB (c : Sc) (lg f pre : Str) : List Stmt → Bool
  | [.Expr (.Call (.Attribute (.Name b p1) m p2) [.Name sf p3, x] [] pos) p4, .Assign [.Attribute (.Name sf2 p5) g p6] (.Name n p7) p8] =>
    (p2.endLine == pos.line) && decide (b = lg) && (decide (m = "__init__") && (gnB c b && (nmB c 0 sf && (nmB c 0 sf2 && (nmB c 1 n && (decide (g = f) && chkE c (iniE pre) x))))))
  | _ => false
theorem iniB_ok {c : Sc} {lg f pre : Str} {body : List Stmt} (h : iniB c lg f pre body = true) : ∃ p1 p2 sf p3 x pos p4 sf2 p5 p6 n p7 p8, body = [.Expr (.Call (.Attribute (.Name lg p1) "__init__" p2) [.Name sf p3, x] [] pos) p4, .Assign [.Attribute (.Name sf2 p5) f p6] (.Name n p7) p8] ∧
    (p2.endLine == pos.line) = true ∧ gnB c lg = true ∧ nmB c 0 sf = true ∧ nmB c 0 sf2 = true ∧ nmB c 1 n = true ∧ chkE c (iniE pre) x = true := by
  unfold iniB at h
  split at h
  · simp only [Bool.and_eq_true, decide_eq_true_eq] at h
    obtain ⟨⟨h0, rfl⟩, rfl, h3, h4, h5, h6, rfl, h8⟩ := h
    exact ⟨_, _, _, _, _, _, _, _, _, _, _, _, _, rfl, h0, h3, h4, h5, h6, h8⟩
  · cases h
def spI (K : PySem.W.Frag) (mg : Str → Option Value) (f pre : Str) : Sp := fun vs H Q E => ∃ (a C : Addr) (v : L2.V) (G : Gh) (st : Sto) (x : Vl) (z : Str), vs = [.ref a, v] ∧ OexC K C ∧ PySem.W.findIn K (.ref C) f = some none ∧ H a = some (exo a C none) ∧ (∀ i, G.mu i ≠ some a) ∧
  StR K mg G H st ∧ RV K mg G H x v ∧ bltM .repr st [x] = some (.str z) ∧ pre.length + z.length ≤ sizeLine ∧ ∀ G' H' dx, Ext G H G' H' → StR K mg G' H' st → H' dx = none → dx ≠ a → Q .non (upd (upd H' dx (exd dx [(f, v)])) a (exo a C (some dx)))
theorem ini_body {X : Cx} {c : Sc} {C : Ca} {E : XK} (w : We X c C E) {lg f pre : Str} {C0 : Addr} {body : List Stmt} (hb : iniB c lg f pre body = true) (T : LgeC X.K C0) (hm : X.mg lg = some (.ref C0)) {vs : List L2.V} {H : Hp} {Q : VK} {D : Ends} {σ : L2.St}
    (h : spI X.K X.mg f pre vs H Q E) (hσ : σ.length = 2 ∧ σ[0]? = (vs[0]?).map some ∧ σ[1]? = (vs[1]?).map some) (hD : ∀ H', Q .non H' → D.nx σ H') : rdSs X body D σ H := by
  obtain ⟨p1, p2, sf, p3, x, pos, p4, sf2, p5, p6, n, p7, p8, rfl, h0, h1, h2, h3, h4, h5⟩ := iniB_ok hb
  obtain ⟨a, C1, v, G, st, y, z, rfl, oc, hf, ha, hmu, hs, rv, hz, hl, hq⟩ := h
  obtain ⟨hσ0, e0, e1⟩ := hσ
  have e0 : σ[0]? = some (some (.ref a)) := e0
  have e1 : σ[1]? = some (some v) := e1
  obtain ⟨g1, g2, _⟩ := w.wd.gn h1
  have xs : isStar x = false := chkE_star h5
  refine rdSs_of (pss_cons (ps_expr (pe_leinit T g1 hm g2 (pa_cons (w.wd.vr h2) (pa_cons rdE_pe pa_nil (star_cons xs)) rfl) (mcall_eq rfl (noStars_few (by show (!isStar (.Name sf p3) && (!isStar x && true)) = true; rw [xs]; rfl) (by show 2 < 29; decide)) h0) rfl (by rw [star_cons xs]; rfl)) rfl) (pss_one (ps_ost (w.wd.vr h3) (w.wd.vr h4)))) ?_
  refine ⟨_, e0, ?_⟩
  have en : EnvR X.K X.mg ⟨G, H⟩ (fun _ => none) G H [.e, .v y] σ := by
    refine ⟨hσ0, fun i sl e => ?_, fun i a z => (nomatch z), fun i j a z => (nomatch z), .refl⟩
    match i, e with
    | 0, e => cases e; exact .e
    | 1, e => cases e; rw [e1]; exact .v (.inl rv)
  refine (snd_E (iniE pre) h5 w.wd).1 ⟨G, H⟩ _ [.e, .v y] σ G H st _ en hs ?_
  have e1' : (evEs C (.cons (.var 1) .nil) [.e, .v y]) st = .ok [y] st := rfl
  have e2' : ((evB C (.blt .repr (.cons (.var 1) .nil)) [.e, .v y]).1) st = .ok (.str z) st := by
    show bnd (evEs C (.cons (.var 1) .nil) [.e, .v y]) (fun xs => look fun st => bltM .repr st xs) st = _
    rw [bnd_ok e1']
    unfold look
    simp only [hz]
  have ev : (evB C (iniE pre) [.e, .v y]).1 st = .ok (.str (pre ++ z)) st := by
    show bnd (LG.ret (Vl.str pre)) (fun x => bnd ((evB C (.blt .repr (.cons (.var 1) .nil)) [.e, .v y]).1) fun y => look fun st => binM .add st x y) st = _
    rw [bnd_ret, bnd_ok e2']
    unfold look
    have : binM .add st (.str pre) (.str z) = if pre.length + z.length ≤ sizeLine then some (.str (pre ++ z)) else none := rfl
    simp only [this, if_pos hl]
  show Cov X.K X.mg (WE (WK E) σ) G H ((evB C (iniE pre) [.e, .v y]).1 st) _
  rw [ev]
  intro G' H' e s u ru
  refine ⟨a, C1, [u], rfl, (by show 1 ≤ 1000; decide), oc, e.keep a _ ha hmu, ?_⟩
  refine ⟨_, e1, _, e0, a, C1, rfl, oc, hf, .inl ⟨e.keep a _ ha hmu, fun dx n ne => hD _ (hq G' H' dx e s n ne)⟩⟩
end LG
namespace LG
open PySem L2 PySem.Spec PyProof.Rows
abbrev CaN : Ca := ⟨fun _ _ => bad, 0, [], fun _ => false, fun _ => false⟩
theorem isaN {K : PySem.W.Frag} {mg : Str → Option Value} : IsaT K mg [] := ⟨fun n hn => (nomatch hn), fun n hn => (nomatch hn), fun n hn => (nomatch hn), fun n hn => (nomatch hn), fun t _ m hm => (nomatch hm), fun t _ m hm => (nomatch hm), fun n hn => (nomatch hn)⟩
/-- a def of the program's, called by none of the program's defs -/
theorem we_of {P : Program} {w : World} {K : PySem.W.Frag} {mg : Str → Option Value} {base : Heap} {N ps : List Str} {qual : Str} {scope : Scope} {f : Addr} {cdv : Value} {A : Around} {outer : List Env} {s : Shared} {H : Hp} {E : XK} {k : Nat}
    (S : FnScope N ps scope) (bl : ∀ n ∈ bltN, mg n = none) (hsys : ∃ o, base.get? sysModules = some o) (room : Room k (A.deeper (envOfC qual scope s.heap.objs.size f cdv))) (gd : A.guards = some []) :
    We (cxOf (L2.CX P w) P w K mg base N qual scope f cdv A outer s H E) ⟨N, scope, [], []⟩ CaN E := by
  refine ⟨⟨⟨rfl, gd, ?_, hsys⟩, rfl, rfl, S.nd, bl, fun n s h => (nomatch h), fun n s h => (nomatch h), isaN, takes_of (E₁ := fun e' s'' => L2.CX P w outer H s E e' s'') rfl rfl rfl rfl, fun Y V sm tk => ⟨fun f q pos e l t hh => (by cases hh), fun n q pos e t hh => (by cases hh), fun n q pos kp e t hh => (by cases hh), fun f q pos hh => (by cases hh)⟩⟩, passes_of rfl, fun _ => rfl, S.kind⟩
  have := room.un
  show (A.deeper _).units + 100 < cLine
  omega
/-- what a class of errors says -/
structure ErrC (K : PySem.W.Frag) (C fI : Addr) : Prop where
  oc : OexC K C
  iC : PySem.W.findIn K (.ref C) "__init__" = some (some (.ref fI))
  tI : PySem.W.typeIn K (.ref fI) = some (.type "function")
end LG
namespace PySem.HandSPX
open PySem PySem.W PySem.Calls PyProof.Rows
section
variable {M : Model} {A : Around} {E : Value → Shared → Prop} {h : Heap} {g : Array GenState} {d : Drawn} {t : Nat} {os : OsState}
variable {nm q : Str} {C N : Addr} {bs bm bmB : List Value} {hdct : Bool} {sn : List Str} {sub : List Value} {ab : Bool} {col : Option Bool} {dd : Option Addr} {k0 k1 k2 k3 k5 : Option Value} {B newId initId : String}
theorem lg_check_new (F : ExcBaseFacts B newId initId bmB) (hT : ∀ X : String, bm.contains (.type X) = bmB.contains (.type X)) {rest : List Value} {kw : List (Str × Value)} {Q : Unit → Shared → Prop}
    (hC : h.get? C = some (excClassObj nm q C N bs bm hdct sn sub ab col dd k0 k1 k2 k3 k5 newId)) (hq : Q () ⟨h, g, d, t, os⟩) : wpAny M A (checkBuiltinCall newId ⟨.ref C :: rest, kw⟩) Q E ⟨h, g, d, t, os⟩ := by
  have c1 : (Value.ref C :: bm).contains (.type B) = true := by rw [List.contains_cons, hT, F.hasB, Bool.or_true]
  have c2 := F.noStar
  simp only [checkBuiltinCall, F.newKind, F.newSplit, F.newRow]
  repeat (first | refine wpAny_loadPart_at hC ?_ | (refine wpAny_isSubtype_exc hC ?_; rw [c1]) | refine wpAny_staticBase_exc hC ?_ | refine wpAny_madeBy_exc hC ?_ | simp only [bne_self_eq_false, Bool.false_eq_true, if_false] | wp_step)
  exact hq
end
section
variable {prog : Program} {w : World} {A : Around} {E : Value → Shared → Prop} {R : Result → Shared → Prop} {h : Heap} {g : Array GenState} {d : Drawn} {t : Nat} {os : OsState}
variable {nm q : Str} {C N : Addr} {bs bm bmB : List Value} {hdct : Bool} {sn : List Str} {sub : List Value} {ab : Bool} {col : Option Bool} {dd : Option Addr} {k0 k1 k2 k3 k5 : Option Value} {B newId initId : String}
theorem lg_new (F : ExcBaseFacts B newId initId bmB) (hT : ∀ X : String, bm.contains (.type X) = bmB.contains (.type X)) {rest : List Value} {kw : List (Str × Value)}
    (hC : h.get? C = some (excClassObj nm q C N bs bm hdct sn sub ab col dd k0 k1 k2 k3 k5 newId))
    (hq : R (.ok (.ret (.ref (h.objs.size + 1)))) ⟨(h.push { cls := .type "tuple", data := .seq rest.toArray }).push
      { cls := .ref C, data := .fields #[.ref h.objs.size, .none, .none, .none, .bool false, .none] }, g, d, t, os⟩) (hrest : rest.length ≤ sizeLine) :
    codeAny (model prog w) A (.builtin newId ⟨.ref C :: rest, kw⟩) R ⟨h, g, d, t, os⟩ := by
  have c0 := F.ends
  have c1 : (Value.ref C :: bm).contains (.type B) = true := by rw [List.contains_cons, hT, F.hasB, Bool.or_true]
  have c2 : (Value.ref C :: bm).contains (.type "AttributeError") = false := by rw [List.contains_cons, hT, F.noAttr]; rfl
  have c3 : (Value.ref C :: bm).contains (.type "NameError") = false := by rw [List.contains_cons, hT, F.noName]; rfl
  refine codeAny_builtinAt F.entry ?_
  unfold Builtin.«BaseException.__new__»
  refine wpAt_bind ?_
  show wpAt _ _ _ (stack >>= _) _ _ _
  refine wpAt_bind (wpAt_stack fun p below => wpAt_of_wpAny ?_)
  wp_walk
  refine wpAt_of_wpAny ?_
  rw [F.owner]
  repeat (first | with_reducible refine wpAny_madeHere_exc F.canon hC ?_ | with_reducible refine wpAny_loadPart_at hC ?_ | (with_reducible refine wpAny_isSubtype_exc hC ?_; first | rw [c1] | rw [c2] | rw [c3]) | wp_step)
  show R _ _
  rw [Heap.size_push]
  exact hq
theorem lg_type_call (F : ExcBaseFacts B newId initId bmB) (hT : ∀ X : String, bm.contains (.type X) = bmB.contains (.type X)) {rest : List Value} {kw : List (Str × Value)} {fI : Addr} {Q : Fin → Shared → Prop}
    (hC : h.get? C = some (excClassObj nm q C N bs bm hdct sn sub ab col dd k0 k1 k2 k3 k5 newId))
    (hi : W.Looks (model prog w) h (typeLookup (.ref C) "__init__") (some (.ref fI))) (hb : ∀ self, W.Looks (model prog w) h (bindSpecial (.ref fI) self) (.ref fI, [self])) (hrest : rest.length ≤ sizeLine)
    (hq : codeAny (model prog w) A (.call (.ref fI) ⟨.ref (h.objs.size + 1) :: rest, kw⟩)
      (fun r s' => match r with | .ok (.ret v) => v = .none ∧ Q (.done (.ret (.ref (h.objs.size + 1)))) s' | .ok _ => False | .error e => E e s')
      ⟨(h.push (W.kdv_tup rest)).push (excO C h.objs.size), g, d, t, os⟩) :
    wpAny (model prog w) A (Builtin.«type.__call__» ⟨.ref C :: rest, kw⟩) Q E ⟨h, g, d, t, os⟩ := by
  repeat (first | with_reducible refine wpAny_loadPart_at hC ?_ | with_reducible refine wpAny_madeBy_exc hC ?_ | wp_step)
  all_goals try skip
  refine codeAny_call_builtin_code (Code.quiet_builtin _ F.quiet) (lg_check_new F hT hC ?_)
  refine lg_new F hT hC ?_ hrest
  show wpAny _ _ _ _ _ _
  have k : ∀ b o, h.get? b = some o → ((h.push (W.kdv_tup rest)).push (excO C h.objs.size)).get? b = some o := fun b o e => Heap.get?_push_of_some _ (Heap.get?_push_of_some _ e)
  have l1 := k _ _ hC
  have l2 : ((h.push (W.kdv_tup rest)).push (excO C h.objs.size)).get? (h.objs.size + 1) = some (excO C h.objs.size) := by heap_get
  have l3 : (Value.ref C :: bm).contains (.ref C) = true := by simp
  have i1 := hi.keeps k
  have b1 := (hb (.ref (h.objs.size + 1))).keeps k
  unfold isInstance
  repeat (first | with_reducible refine wpAny_loadPart_at l2 ?_ | (with_reducible refine wpAny_isSubtype_exc l1 ?_; rw [l3]) | wp_step)
  show wpAny _ _ (typeLookup (.ref C) _) _ _ _
  refine i1.at ?_
  refine wpAny_holding (wpAny_bind (b1.at ?_))
  refine wpAny_bind (wpAny_call (codeAny_mono hq fun r s' z => ?_))
  rcases r with e | (v | _ | _ | _) <;> first | exact z | exact z.elim | skip
  obtain ⟨rfl, z⟩ := z
  first
    | exact wpAny_pure (wpAny_pure z)
    | (wp_walk; exact z)
theorem lg_call (F : ExcBaseFacts B newId initId bmB) (hT : ∀ X : String, bm.contains (.type X) = bmB.contains (.type X)) {rest : List Value} {kw : List (Str × Value)} {fI : Addr}
    (hC : h.get? C = some (excClassObj nm q C N bs bm hdct sn sub ab col dd k0 k1 k2 k3 k5 newId))
    (hi : W.Looks (model prog w) h (typeLookup (.ref C) "__init__") (some (.ref fI))) (hb : ∀ self, W.Looks (model prog w) h (bindSpecial (.ref fI) self) (.ref fI, [self])) (hrest : rest.length ≤ sizeLine)
    (hq : codeAny (model prog w) (A.under (.builtin "type.__call__" ⟨.ref C :: rest, kw⟩)) (.call (.ref fI) ⟨.ref (h.objs.size + 1) :: rest, kw⟩) (W.InitBack (h.objs.size + 1) R)
      ⟨(h.push (W.kdv_tup rest)).push (excO C h.objs.size), g, d, t, os⟩) :
    codeAny (model prog w) A (.call (.ref C) ⟨rest, kw⟩) R ⟨h, g, d, t, os⟩ := by
  have f1 := tc_lookup
  have f2 := tc_bind (.ref C)
  have f3 : (⟨h, g, d, t, os⟩ : Shared).TypeIs (.ref C) "type" := ⟨_, hC, rfl⟩
  refine codeAny_of_tree ?_
  show wpAny _ _ (callAny (.ref C) _) _ _ _
  repeat (any_goals (first | assumption | with_reducible refine wpAny_loadPart_at hC ?_ | wp_step))
  refine ⟨rfl, ?_⟩
  refine codeAny_call_builtin_at (Code.quiet_builtin _ (by decide +kernel)) entry_typeCall (wpAny_check_type_call_sub hC (lg_type_call F hT hC hi hb hrest ?_))
  refine codeAny_mono hq fun r s' z => ?_
  rcases r with e | (v | _ | _ | _) <;> exact z
end
end PySem.HandSPX
namespace LG
open PySem L2 PySem.Spec PyProof.Rows
/-- a def's promise, however its arguments are written -/
structure FnA (P : Program) (w : World) (K : PySem.W.Frag) (mg : Str → Option Value) (base : Heap) (k : Nat) (f : Addr) (fd : FuncData) (ps : List Str) (sp : Sp) : Prop where
  len : ∀ vs H Q E, sp vs H Q E → vs.length = ps.length
  run : ∀ (A : Around) (outer : List Env) (s : Shared) (H : Hp) (args : Args) (us : List Value) (vs : List L2.V) (Q : VK) (E : XK), Room k A → A.guards = some [] → Env0 P w K mg base A outer s H → BindsTo s fd args (ps.zip us) → Vals vs us → sp vs H Q E →
    codeAny (model P w) A (.call (.ref f) args) (CR (L2.CX P w) outer P w H s Q E) s
section
variable {P : Program} {w : World} {K : PySem.W.Frag} {mg : Str → Option Value} {base : Heap}
theorem fna_of {k : Nat} {f : Addr} {fd : FuncData} {x qual : Str} {params : Arguments} {body : List Stmt} {scope : Scope} {N ps : List Str} {sp : Sp} (F : FunD K x qual params body scope [] [] f fd) (S : FnScope N ps scope)
    (len : ∀ vs H Q E, sp vs H Q E → vs.length = ps.length)
    (go : ∀ (cdv : Value) (A : Around) (outer : List Env) (s : Shared) (H : Hp) (vs : List L2.V) (Q : VK) (E : XK), Room k (A.deeper (envOfC qual scope s.heap.objs.size f cdv)) → A.guards = some [] → sp vs H Q E →
      rdSs (cxOf (L2.CX P w) P w K mg base N qual scope f cdv A outer s H E) body { nx := fun _ H' => Q .non H', rt := Q } (L2.start N vs) H) : FnA P w K mg base (k + 1) f fd ps sp := by
  obtain ⟨oc, od, dV, kV, doc, pm, an, cdv, ct, osl, rfl, lk, hcd, _, _⟩ := F.ex
  refine ⟨len, fun A outer s H args us vs Q E room gd e0 bnds rv promise => ?_⟩
  have n1 : vs.length = ps.length := len _ _ _ _ promise
  have kin : K.In s.heap := e0.mod.kin.keeps fun b o e => (e0.bs b o e).1
  have kinds : ∀ y ∈ ps.zip us, scope.names.lookup y.1 = some .local ∨ (scope.names.lookup y.1 = some .cell ∧ ((cellsFrom (s.heap.objs.size + 1) scope.names []).lookup y.1).isSome = true) := by
    rintro ⟨n, v⟩ hy
    exact (S.par n (List.of_mem_zip hy).1).imp id fun q => ⟨q, PySem.W.cellsFrom_some _ _ _ (.inl q)⟩
  refine codeAny_call_function room.depth (kin _ _ lk) rfl S.co S.gen rfl (PySem.W.codeRec_of kin hcd) (bnds _ _ _ _ (wpAny_newFunctionEnv_cells S.kind kinds fun env he s1 ic => ?_))
  subst he
  refine ⟨(e0.mod.nolimit.keeps fun b o e => (e0.bs b o e).1).keeps ic.toInCall.keep, codeAny_func ?_⟩
  have J := inv_start (CX := L2.CX P w) (E := E) S room.hd e0 n1 rv ic
  refine wpAny_mono (go cdv A outer s H vs Q E (room.deeper _) gd promise [] s1 J) (fun fl s' hs => ?_) fun _ _ h => h
  cases fl with
  | ret u => obtain ⟨v, σ', H', J', r', q⟩ := hs; exact ⟨v, H', J'.os, J'.bare, J'.base, J'.hok, r', q⟩
  | next => obtain ⟨σ', H', J', q⟩ := hs; exact ⟨V.non, H', J'.os, J'.bare, J'.base, J'.hok, rfl, q⟩
  | brk => obtain ⟨_, _, _, q⟩ := hs; exact q.elim
  | cont => obtain ⟨_, _, _, q⟩ := hs; exact q.elim
theorem ini_fna {N : List Str} {x qual lg f pre sf n : Str} {params : Arguments} {body : List Stmt} {scope : Scope} {fI C0 : Addr} {fd : FuncData} {k : Nat}
    (F : FunD K x qual params body scope [] [] fI fd) (S : FnScope [sf, n] [sf, n] scope) (ck : iniB ⟨[sf, n], scope, [], []⟩ lg f pre body = true) (T : LgeC K C0) (hm : mg lg = some (.ref C0))
    (bl : ∀ n ∈ bltN, mg n = none) (hsys : ∃ o, base.get? sysModules = some o) : FnA P w K mg base (k + 1) fI fd [sf, n] (spI K mg f pre) := by
  refine fna_of F S (fun vs H Q E h => ?_) fun cdv A outer s H vs Q E room gd h => ?_
  · obtain ⟨a, C, v, G, st, y, z, rfl, _⟩ := h
    rfl
  · have we := we_of (P := P) (w := w) (K := K) (outer := outer) (H := H) (E := E) S bl hsys room gd
    obtain ⟨a, C, v, G, st, y, z, rfl, _⟩ := id h
    exact ini_body we ck T hm h ⟨rfl, rfl, rfl⟩ fun H' q => q
end
section
variable {X : Cx} {pins : Pn} {σ : L2.St} {H H1 : Hp} {s : Shared} {C fI : Addr} {k : Nat} {sp : Sp} {us ws : List Value} {vs zs : List L2.V} {e : Expr} {es : List Expr} {x : Str} {p pos : Pos} {ta : TA} {fd : FuncData} {sf : Str} {ps : List Str} {kw : List (Str × Value)}
/-- an error's making: C(..), its __init__ keeping sp -/
theorem err_make (T : ErrC X.K C fI) (Fi : FnA X.prog X.w X.K X.mg X.base k fI fd ps sp) (hr : Room (k + 1) X.A) (gd : X.A.guards = some []) (I : Inv X pins σ H s) (r : Vals zs ws) (hz : us.length ≤ 1000)
    (hb : ∀ (s : Shared) (a : Addr), X.K.In s.heap → BindsTo s fd ⟨.ref a :: us, kw⟩ (ps.zip (.ref a :: ws))) {R : Addr → VK} {Q : Value → Shared → Prop}
    (h : ∀ a, H a = none → sp (.ref a :: zs) (upd H a (exo a C none)) (fun v H2 => v = .non ∧ R a v H2) (fun _ _ _ => False))
    (q : ∀ (hp2 : Heap) (s' : Shared) (H2 : Hp) (a : Addr), H a = none → s.heap.objs.size ≤ a → (∀ b o, s.heap.get? b = some o → hp2.get? b = some o) → s'.os = s.os → AllBare s'.gens → Un (frs X.stack) [] (upd H a (exo a C none)) H2 hp2 s'.heap → HOk X.prog X.w H2 s'.heap → Inv X pins σ H2 s' → R a .non H2 → Q (.ref a) s') :
    wpAny (model X.prog X.w) X.A (call (.ref C) us kw) Q X.xe s := by
  obtain ⟨nm, qn, N, bs, bm, sn, sub, ab, col, dd, k0, k1, k2, k3, k5, hC, hbm⟩ := T.oc.cls
  obtain ⟨hp, g, dr, tk, os⟩ := s
  have hsz : hp.objs.size ≤ hp.objs.size + 1 := Nat.le_succ _
  have hn : H (hp.objs.size + 1) = none := I.hok.fresh hsz
  have hq := h (hp.objs.size + 1) hn
  have kk : ∀ b o, hp.get? b = some o → ((hp.push (PySem.W.kdv_tup us)).push (PySem.HandSPX.excO C hp.objs.size)).get? b = some o := fun b o e => Heap.get?_push_of_some _ (Heap.get?_push_of_some _ e)
  have hget : ((hp.push (PySem.W.kdv_tup us)).push (PySem.HandSPX.excO C hp.objs.size)).get? (hp.objs.size + 1) = some (PySem.HandSPX.excO C hp.objs.size) := by heap_get
  have I2 : Inv X pins σ (upd H (hp.objs.size + 1) (exo (hp.objs.size + 1) C none)) ⟨(hp.push (PySem.W.kdv_tup us)).push (PySem.HandSPX.excO C hp.objs.size), g, dr, tk, os⟩ :=
    I.laid (t' := tk) (a := hp.objs.size + 1) (o := exo (hp.objs.size + 1) C none) (h' := (hp.push (PySem.W.kdv_tup us)).push (PySem.HandSPX.excO C hp.objs.size)) kk hsz (exo_ok hget)
  refine wpAny_call (PySem.HandSPX.lg_call F.excBase_ValueError (fun Y => PySem.HandSPX.refsVE_contains Y bm hbm) (I.kIn _ _ hC) (PySem.W.looks_findIn I.kIn T.iC) (fun self => PySem.W.bind_fn I.kIn self T.tI) (by rw [sizeLine_eq]; omega)
    (codeAny_mono (Fi.run _ X.stack _ _ _ (Value.ref (hp.objs.size + 1) :: ws) _ _ (fun _ _ _ => False) (hr.make C us kw) gd (I2.env0.make C us kw) (hb _ _ I2.kIn) (.cons (show RelV (V.ref (hp.objs.size + 1)) (Value.ref (hp.objs.size + 1)) from rfl) r) hq) fun r' s' hq' => ?_))
  cases r' with
  | error er =>
    obtain ⟨_, _, _, _, _, _, _, _, _, _, _, _, z⟩ := hq'
    exact z.elim
  | ok fl =>
    cases fl with
    | ret u =>
      obtain ⟨v2, H3, os2, bare2, un2, hok2, rv2, ev2, q3⟩ := hq'
      subst ev2
      obtain ⟨v4, H4, I4, _, e4⟩ := I2.after (Q := fun _ H => H = H3) ⟨_, H3, os2, bare2, un2, hok2, rv2, rfl⟩
      subst e4
      exact ⟨rv2, q _ s' H4 _ hn hsz kk os2 bare2 un2 hok2 I4 q3⟩
    | next => exact False.elim hq'
    | brk => exact False.elim hq'
    | cont => exact False.elim hq'
end
end LG

set_option Elab.async false
set_option linter.all false
set_option maxRecDepth 100000
set_option maxHeartbeats 4000000
/-! G19: defs; the law's end. -/
namespace LG
open PySem L2 PySem.Spec PyProof.Rows
/-- a def's promise, in a place where nothing is being shown -/
structure FnG (P : Program) (w : World) (K : PySem.W.Frag) (mg : Str → Option Value) (base : Heap) (k : Nat) (f : Addr) (sp : Sp) : Prop where
  run : ∀ (A : Around) (outer : List Env) (s : Shared) (H : Hp) (us : List Value) (vs : List V) (Q : VK) (E : XK), Room k A → A.guards = some [] → Env0 P w K mg base A outer s H → Vals vs us → sp vs H Q E →
    codeAny (model P w) A (.call (.ref f) ⟨us, []⟩) (CR (L2.CX P w) outer P w H s Q E) s
section
variable {P : Program} {w : World} {K : PySem.W.Frag} {mg : Str → Option Value} {base : Heap}
theorem fng_of {k : Nat} {f : Addr} {fd : FuncData} {x qual : Str} {params : Arguments} {body : List Stmt} {scope : Scope} {N ps : List Str} {sp : Sp} (F : FunD K x qual params body scope [] [] f fd) (S : FnScope N ps scope) (hb : Binds K fd ps [])
    (len : ∀ vs H Q E, sp vs H Q E → vs.length = ps.length)
    (go : ∀ (cdv : Value) (A : Around) (outer : List Env) (s : Shared) (H : Hp) (vs : List V) (Q : VK) (E : XK), Room k (A.deeper (envOfC qual scope s.heap.objs.size f cdv)) → A.guards = some [] → sp vs H Q E →
      rdSs (cxOf (L2.CX P w) P w K mg base N qual scope f cdv A outer s H E) body { nx := fun _ H' => Q .non H', rt := Q } (L2.start N vs) H) : FnG P w K mg base (k + 1) f sp := by
  obtain ⟨oc, od, dV, kV, doc, pm, an, cdv, ct, osl, rfl, lk, hcd, _, _⟩ := F.ex
  refine ⟨fun A outer s H us vs Q E room gd e0 rv promise => ?_⟩
  have n1 : vs.length = ps.length := len _ _ _ _ promise
  have n2 : (us ++ []).length = ps.length := by rw [List.append_nil, ← rv.length]; exact n1
  have kin : K.In s.heap := e0.mod.kin.keeps fun b o e => (e0.bs b o e).1
  have bnds := hb s us kin n2
  rw [List.append_nil] at bnds
  have kinds : ∀ y ∈ ps.zip us, scope.names.lookup y.1 = some .local ∨ (scope.names.lookup y.1 = some .cell ∧ ((cellsFrom (s.heap.objs.size + 1) scope.names []).lookup y.1).isSome = true) := by
    rintro ⟨n, v⟩ hy
    exact (S.par n (List.of_mem_zip hy).1).imp id fun q => ⟨q, PySem.W.cellsFrom_some _ _ _ (.inl q)⟩
  refine codeAny_call_function room.depth (kin _ _ lk) rfl S.co S.gen rfl (PySem.W.codeRec_of kin hcd) (bnds _ _ _ _ (wpAny_newFunctionEnv_cells S.kind kinds fun env he s1 ic => ?_))
  subst he
  refine ⟨(e0.mod.nolimit.keeps fun b o e => (e0.bs b o e).1).keeps ic.toInCall.keep, codeAny_func ?_⟩
  have J := inv_start (CX := L2.CX P w) (E := E) S room.hd e0 n1 rv ic
  refine wpAny_mono (go cdv A outer s H vs Q E (room.deeper _) gd promise [] s1 J) (fun fl s' hs => ?_) fun _ _ h => h
  cases fl with
  | ret u => obtain ⟨v, σ', H', J', r', q⟩ := hs; exact ⟨v, H', J'.os, J'.bare, J'.base, J'.hok, r', q⟩
  | next => obtain ⟨σ', H', J', q⟩ := hs; exact ⟨V.non, H', J'.os, J'.bare, J'.base, J'.hok, rfl, q⟩
  | brk => obtain ⟨_, _, _, q⟩ := hs; exact q.elim
  | cont => obtain ⟨_, _, _, q⟩ := hs; exact q.elim
theorem run_fng {Y : Cx} {V : WX} {pins : Pn} {σ : L2.St} {H : Hp} {s : Shared} {Q : VK} {us : List Value} {vs : List L2.V} {k : Nat} {f : Addr} {sp : Sp} (F : FnG Y.prog Y.w Y.K Y.mg Y.base k f sp) (room : Room k Y.A) (gd : Y.A.guards = some []) (tk : Takes Y V)
    (I : Inv Y pins σ H s) (r : Vals vs us) (h : sp vs H Q (WE V σ)) : wpAny (model Y.prog Y.w) Y.A (call (.ref f) us) (EP Y pins σ Q) Y.xe s := by
  refine wpAny_call (codeAny_mono (F.run Y.A Y.stack s H us vs Q (WE V σ) room gd I.env0 r h) fun res s' hq => ?_)
  cases res with
  | error e => exact passAt tk σ pins H s e s' I hq
  | ok fl => cases fl <;> first | exact I.after hq | exact False.elim hq
/-- what a def does, told by the evaluator -/
def spD (K : PySem.W.Frag) (mg : Str → Option Value) (tb : Tb) (cls : List Str) (fuel d : Nat) (f : Str) : Sp := fun vs H Q E => ∃ G st xs, StR K mg G H st ∧ RBs K mg G H xs vs ∧
  Cov K mg E G H (callD tb cls fuel d f xs st) (fun r st' G' H' => ∀ v, RR K mg H G' H' r v → Q v H')
/-- an error's making, to its end -/
theorem mk_ok {Y : Cx} {pins : Pn} {σ : L2.St} {H : Hp} {s : Shared} {n : Str} {C fI : Addr} {fd : FuncData} {ps : List Str} {us : List Value} {kw : List (Str × Value)} {u : Value} {v : L2.V} {Q : VK} (T : ErrC Y.K C fI) (hf : PySem.W.findIn Y.K (.ref C) (attrOf n) = some none)
    (Fi : FnA Y.prog Y.w Y.K Y.mg Y.base 1 fI fd ps (spI Y.K Y.mg (attrOf n) (preOf n))) (hm : Y.mg n = some (.ref C)) (hr : Room 2 Y.A) (gd : Y.A.guards = some []) (I : Inv Y pins σ H s) (r : RelV v u) (hl : us.length ≤ 1000)
    (hb : ∀ (s : Shared) (a : Addr), Y.K.In s.heap → BindsTo s fd ⟨.ref a :: us, kw⟩ (ps.zip [.ref a, u])) (h : rErr Y n v H Q) : wpAny (model Y.prog Y.w) Y.A (call (.ref C) us kw) (EP Y pins σ Q) Y.xe s := by
  obtain ⟨G, st, x, hs, rv, ⟨z, hz, hlz⟩, k⟩ := h
  refine err_make T Fi hr gd I (zs := [v]) (ws := [u]) (.cons r .nil) hl hb (R := fun a w H2 => ∃ (G' : Gh) (H' : Hp) (dx : Addr), H2 = upd (upd H' dx (exd dx [(attrOf n, v)])) a (exo a C (some dx)) ∧ LG.Ext (G.more a) (upd H a (exo a C none)) G' H' ∧ StR Y.K Y.mg G' H' st ∧ H' dx = none ∧ dx ≠ a) (fun a ha => ?_) (fun hp2 s' H2 a ha _ _ _ _ _ _ J hR => ?_)
  · have e0 := ext_more (G := G) (o := exo a C none) ha
    exact ⟨a, C, v, G.more a, st, x, z, rfl, T.oc, hf, upd_same, hs.nmu ha, hs.more ha, rv.ext e0, hz, hlz, fun G' H' dx e s n ne => ⟨rfl, G', H', dx, rfl, e, s, n, ne⟩⟩
  · obtain ⟨G', H', dx, rfl, e, s1, hn, hne⟩ := hR
    have e0 := ext_more (G := G) (o := exo a C none) ha
    have pm : ∀ j, (G.more a).mu j ≠ some a := hs.nmu ha
    have da : H' a = some (exo a C none) := e.keep a _ upd_same pm
    have ma : G'.mt a := (e.mt a _ upd_same).mpr (.inr rfl)
    have mua : ∀ j, G'.mu j ≠ some a := fun j z => (e.new j a z).elim (pm j) fun q => by rw [upd_same] at q; cases q
    have hd2 : (upd (upd H' dx (exd dx [(attrOf n, v)])) a (exo a C (some dx))) dx = some (exd dx [(attrOf n, v)]) := by rw [upd_ne hne, upd_same]
    obtain ⟨mA, hns, rel⟩ := exd_at J.hok hd2
    obtain ⟨t1, ho⟩ := exo_at J.hok (show (upd (upd H' dx (exd dx [(attrOf n, v)])) a (exo a C (some dx))) a = some (exo a C (some dx)) from upd_same)
    have J1 := J.write (t' := s'.toks) (h' := s'.heap) (x := dx) (e := dx) (o := .xd [(attrOf n, v)]) (by rw [hd2]; exact True.intro) (.inl rfl) (fun b u _ q => q) (let ⟨o, _, _, q, _⟩ := hns; ⟨o, q⟩) ⟨mA, hns, rel⟩
    have ha2 : (upd (upd (upd H' dx (exd dx [(attrOf n, v)])) a (exo a C (some dx))) dx (.xd [(attrOf n, v)])) a = some (exo a C (some dx)) := by rw [upd_ne (Ne.symm hne), upd_same]
    have J2 := J1.write (t' := s'.toks) (h' := s'.heap) (x := a) (e := a) (o := errO a C dx) (by rw [ha2]; exact True.intro) (.inl rfl) (fun b u _ q => q) ⟨_, ho⟩ ⟨⟨_, _, ho, rfl, rfl, rfl⟩, ⟨_, ho⟩, fun h1 h2 z k => by
      obtain ⟨oe, vs, q1, q2, q3, q4⟩ := z
      exact ⟨oe, vs, k _ q1, q2, q3, q4⟩⟩
    have eH : upd (upd (upd (upd H' dx (exd dx [(attrOf n, v)])) a (exo a C (some dx))) dx (.xd [(attrOf n, v)])) a (errO a C dx) = upd (upd H' dx (.xd [(attrOf n, v)])) a (errO a C dx) := by
      funext b
      by_cases h1 : b = a
      · subst h1; rw [upd_same, upd_same]
      · rw [upd_ne h1, upd_ne h1]
        by_cases h2 : b = dx
        · subst h2; rw [upd_same, upd_same]
        · rw [upd_ne h2, upd_ne h1, upd_ne h2, upd_ne h2]
    have J2' : Inv Y pins σ (upd (upd H' dx (.xd [(attrOf n, v)])) a (errO a C dx)) s' := by rw [← eH]; exact J2
    -- the ghosts
    have e1 : LG.Ext G' H' G' (upd H' dx (.xd [(attrOf n, v)])) := ext_new hn
    have s2 : StR Y.K Y.mg G' (upd H' dx (.xd [(attrOf n, v)])) st := s1.new hn
    have e2 : LG.Ext G H G' (upd (upd H' dx (.xd [(attrOf n, v)])) a (errO a C dx)) := ext_upd ((e0.trans e).trans e1) ha
    have s3 : StR Y.K Y.mg G' (upd (upd H' dx (.xd [(attrOf n, v)])) a (errO a C dx)) st := s2.upd ma mua
    have nd : ¬ G'.mt dx := s1.nmt hn
    have kp : LG.Keep G' (upd H' dx (.xd [(attrOf n, v)])) G' (upd (upd H' dx (.xd [(attrOf n, v)])) a (errO a C dx)) := keep_upd ma
    have kl : LG.Keep G' (upd (upd H' dx (.xd [(attrOf n, v)])) a (errO a C dx)) (G'.less a mua) (upd (upd H' dx (.xd [(attrOf n, v)])) a (errO a C dx)) := keep_less mua
    have rv2 := (((((rv.ext e0).ext e).ext e1).keep kp).keep kl)
    exact ⟨.ref a, _, J2', rfl, k _ _ _ (ext_less e2 mua ha) (s3.less mua) (.err hm (fun q => q.2 rfl) upd_same (fun q => nd q.1) (by rw [upd_ne hne, upd_same]) rv2)⟩
/-- what the text says of its errors -/
structure ErrT (K : PySem.W.Frag) (mg : Str → Option Value) (n : Str) : Prop where
  ex : ∃ (C fI : Addr) (fd : FuncData) (ps : List Str), mg n = some (.ref C) ∧ ErrC K C fI ∧ PySem.W.findIn K (.ref C) (attrOf n) = some none ∧
    (∀ (P : Program) (w : World) (base : Heap), (∃ o, base.get? sysModules = some o) → FnA P w K mg base 1 fI fd ps (spI K mg (attrOf n) (preOf n))) ∧
    (∀ (s : Shared) (a : Addr) (u : Value), K.In s.heap → BindsTo s fd ⟨[.ref a, u], []⟩ (ps.zip [.ref a, u])) ∧ (∀ (s : Shared) (a : Addr) (u : Value), K.In s.heap → BindsTo s fd ⟨[.ref a], [(attrOf n, u)]⟩ (ps.zip [.ref a, u]))
abbrev CaD (tb : Tb) (cls : List Str) (fuel d : Nat) : Ca := ⟨callD tb cls fuel d, fuel, cls, fun f => (tb.lookup f).isSome, fun n => decide (2 ≤ d) && (decide (n ∈ cls) && decide (n ∈ errN))⟩
theorem calR_of {Y : Cx} {V : WX} {tb : Tb} {cls : List Str} {fuel d : Nat} (room : Room d Y.A) (gd : Y.A.guards = some []) (tk : Takes Y V) (hE : ∀ n ∈ cls, n ∈ errN → ErrT Y.K Y.mg n) (hsys : ∃ o, Y.base.get? sysModules = some o)
    (hF : ∀ f, (tb.lookup f).isSome = true → ∃ fa, Y.mg f = some (.ref fa) ∧ PySem.W.keepIn Y.K (.ref fa) = true ∧ FnG Y.prog Y.w Y.K Y.mg Y.base d fa (spD Y.K Y.mg tb cls fuel d f)) : CalR Y (CaD tb cls fuel d) V where
  go := fun f q pos e l t hh hg hdb hx ha => by
    obtain ⟨fa, hm, hk, F⟩ := hF f hh
    have hx1 : isStar e = false ∧ noStars l = true := by
      have : (!isStar e && noStars l) = true := hx
      rw [Bool.and_eq_true, Bool.not_eq_true'] at this
      exact this
    refine ⟨fun pins s σ H Q I h => wpAny_Call_Name_kw (ld_glob I hg hm ?_ hdb)⟩
    exact PySem.W.callWith_K (h₀ := Y.base) I.ok.mod.kin hk (thn (ha.run pos pins s σ H _ I h) fun us s1 ⟨vs, H1, I1, r, q⟩ => ⟨I1.kIn, run_fng F room gd tk I1 r q⟩) (star_cons hx1.1) (noStars_any hx1.2)
  mkx := fun n q pos e t hh hg hdb hx ha => by
    have hh : (decide (2 ≤ d) && (decide (n ∈ cls) && decide (n ∈ errN))) = true := hh
    simp only [Bool.and_eq_true, decide_eq_true_eq] at hh
    obtain ⟨C, fI, fd, ps, hm, T, hf, Fi, b1, b2⟩ := (hE n hh.2.1 hh.2.2).ex
    refine ⟨fun pins s σ H Q I h => wpAny_Call_Name_kw (ld_glob I hg hm ?_ hdb)⟩
    have hp := pa_cons ha (pa_nil (X := Y)) (star_cons hx)
    exact PySem.W.callWith_K (h₀ := Y.base) I.ok.mod.kin T.oc.kC (thn (hp.run pos pins s σ H (fun vs H1 => match vs with | [v] => rErr Y n v H1 Q | _ => False) I h) fun us s1 ⟨vs, H1, I1, r, q⟩ => ⟨I1.kIn, by
        cases r with
        | nil => exact q.elim
        | cons r0 rr =>
          cases rr with
          | nil => exact mk_ok T hf (Fi _ _ _ hsys) hm (room.mono hh.1) gd I1 r0 (by show 1 ≤ 1000; decide) (fun s a hk => b1 s a _ hk) q
          | cons _ _ => exact q.elim⟩) (star_cons hx) rfl
  mkk := fun n q pos kp e t hh hg hdb ha => by
    have hh : (decide (2 ≤ d) && (decide (n ∈ cls) && decide (n ∈ errN))) = true := hh
    simp only [Bool.and_eq_true, decide_eq_true_eq] at hh
    obtain ⟨C, fI, fd, ps, hm, T, hf, Fi, b1, b2⟩ := (hE n hh.2.1 hh.2.2).ex
    refine ⟨fun pins s σ H Q I h => wpAny_Call_Name_kw (ld_glob I hg hm ?_ hdb)⟩
    have hp := pk_cons (nm := some (attrOf n)) (kpos := kp) ha (pk_nil (X := Y))
    refine PySem.W.callWith_KW0 (h₀ := Y.base) I.ok.mod.kin T.oc.kC rfl ?_ rfl
    refine thn (hp.run pos pins s σ H (fun vs H1 => match vs with | [v] => rErr Y n v H1 Q | _ => False) I h) fun us s1 ⟨vs, H1, I1, r, q⟩ => ⟨I1.kIn, ?_⟩
    cases r with
    | nil => exact q.elim
    | cons r0 rr =>
      cases rr with
      | nil => exact mk_ok (us := []) (kw := [(attrOf n, _)]) T hf (Fi _ _ _ hsys) hm (room.mono hh.1) gd I1 r0 (by show 0 ≤ 1000; decide) (fun s a hk => b2 s a _ hk) q
      | cons _ _ => exact q.elim
  go0 := fun f q pos hh hg hdb => by
    obtain ⟨fa, hm, hk, F⟩ := hF f hh
    refine ⟨fun pins s σ H Q I h => wpAny_Call_Name_kw (ld_glob I hg hm ?_ hdb)⟩
    exact PySem.W.callWith_K0 I.kIn hk (run_fng (us := []) F room gd tk I .nil h)
/-- a def's facts: its function object, its text -/
structure DefF (K : PySem.W.Frag) (mg : Str → Option Value) (ks : List (Str × Str)) (ki : List (Str × Int)) (f : Str) (fn : Fn) : Prop where
  ex : ∃ (fa : Addr) (fd : FuncData) (params : Arguments) (body : List Stmt) (scope : Scope) (ps : List Str), mg f = some (.ref fa) ∧ FunD K f f params body scope [] [] fa fd ∧ Binds K fd ps [] ∧ FnScope fn.ns ps scope ∧ ps.length = fn.np ∧
    chkSs ⟨fn.ns, scope, ks, ki⟩ fn.body body = true
theorem Cov.covZ {E : XK} {G : Gh} {H : Hp} {α : Type} {o : Out α} {F : α → Sto → Gh → Hp → Prop} (h : Cov K mg E G H o F) : CovZ K mg E ⟨G, H⟩ G H o F := by
  cases o with
  | ok a st => exact fun G' H' e _ s => h G' H' e s
  | exc n x st => exact fun cls d G' H' e _ s => h cls d G' H' e s
  | bad => exact h
theorem RBs.get {G : Gh} {H : Hp} : ∀ {xs : List Vl} {vs : List L2.V} {i : Nat} {x : Vl}, RBs K mg G H xs vs → xs[i]? = some x → ∃ v, vs[i]? = some v ∧ RB K mg G H x v
  | _, _, _, _, .nil, e => by simp at e
  | _, _, 0, x, .cons r _, e => by
    have e : some _ = some x := e
    cases e
    exact ⟨_, rfl, r⟩
  | _, _, i + 1, x, .cons _ t, e => RBs.get t (i := i) (by simpa using e)
theorem env_start {G : Gh} {H : Hp} {xs : List Vl} {vs : List L2.V} {N : List Str} (h : RBs K mg G H xs vs) (hl : xs.length ≤ N.length) : EnvX K mg ⟨G, H⟩ G H (start0 N.length xs) (L2.start N vs) := by
  have lv := h.length
  refine ⟨fun _ => none, ⟨?_, fun i sl e => ?_, fun i a z => (nomatch z), fun i j a z => (nomatch z), .refl⟩⟩
  · unfold L2.start start0
    rw [List.length_append, List.length_map, List.length_replicate, List.length_append, List.length_map, List.length_replicate]
    omega
  · unfold start0 at e
    by_cases hi : i < xs.length
    · rw [List.getElem?_append_left (by rw [List.length_map]; exact hi), List.getElem?_map] at e
      cases q : xs[i]? with
      | none => rw [q] at e; cases e
      | some x =>
        rw [q] at e; cases e
        obtain ⟨v, hv, rv⟩ := h.get q
        have es : (L2.start N vs)[i]? = some (some v) := by
          unfold L2.start
          rw [List.getElem?_append_left (by rw [List.length_map]; omega), List.getElem?_map, hv]; rfl
        rw [es]
        refine .v ?_
        rcases rv with rv | ⟨ys, a, us, rfl, rfl, n, hh, rr⟩
        · exact .inl rv
        · exact .inr ⟨ys, a, us, rfl, rfl, n, hh, rr⟩
    · rw [List.getElem?_append_right (by rw [List.length_map]; omega), List.getElem?_replicate] at e
      split at e
      · cases e; exact .e
      · cases e
/-- EVERY DEF DOES WHAT THE EVALUATOR SAYS -/
theorem defs_ok {tb : Tb} {cls : List Str} {fuel : Nat} {ks : List (Str × Str)} {ki : List (Str × Int)} (hd : ∀ f fn, tb.lookup f = some fn → DefF K mg ks ki f fn) (bl : ∀ n ∈ bltN, mg n = none) (hks : ∀ n s, (n, s) ∈ ks → ∃ t, mg n = some (.str s t)) (hki : ∀ n i, (n, i) ∈ ki → ∃ t, mg n = some (.int i t)) (isa : IsaT K mg cls) (hE : ∀ n ∈ cls, n ∈ errN → ErrT K mg n)
    (hsys : ∃ o, base.get? sysModules = some o) : ∀ (d : Nat) (f : Str) (fn : Fn), tb.lookup f = some fn → ∃ fa, mg f = some (.ref fa) ∧ PySem.W.keepIn K (.ref fa) = true ∧ FnG P w K mg base d fa (spD K mg tb cls fuel d f)
  | 0, f, fn, hf => by
    obtain ⟨fa, fd, params, body, scope, ps, hm, F, _⟩ := (hd f fn hf).ex
    exact ⟨fa, hm, F.kp, ⟨fun A outer s H us vs Q E _ _ _ _ ⟨G, st, xs, _, _, h⟩ => h.elim⟩⟩
  | d + 1, f, fn, hf => by
    obtain ⟨fa, fd, params, body, scope, ps, hm, F, B, S, np, ck⟩ := (hd f fn hf).ex
    have un : ∀ (E : XK) (G : Gh) (H : Hp) (xs : List Vl) (st : Sto) (Φ : Rt → Sto → Gh → Hp → Prop), Cov K mg E G H (callD tb cls fuel (d + 1) f xs st) Φ → xs.length = fn.np ∧ Cov K mg E G H (bnd (evSs (CaD tb cls fuel d) fn.body (start0 fn.ns.length xs)) rtE st) Φ := fun E G H xs st Φ h => by
      have h' : Cov K mg E G H ((match tb.lookup f with
        | none => bad
        | some fn => if xs.length = fn.np then bnd (evSs (CaD tb cls fuel d) fn.body (start0 fn.ns.length xs)) rtE else bad) st) Φ := h
      rw [hf] at h'
      by_cases hn : xs.length = fn.np
      · simp only [if_pos hn] at h'; exact ⟨hn, h'⟩
      · simp only [if_neg hn] at h'; exact h'.elim
    refine ⟨fa, hm, F.kp, fng_of F S B (fun vs H Q E ⟨G, st, xs, _, rx, h⟩ => ?_) fun cdv A outer s H vs Q E room gd ⟨G, st, xs, hs, rx, h⟩ => ?_⟩
    · rw [← rx.length, (un _ _ _ _ _ _ h).1, np]
    · obtain ⟨hn, h2⟩ := un _ _ _ _ _ _ h
      have hpl : ps.length ≤ fn.ns.length := by
        have := congrArg List.length S.pre
        rw [List.length_take] at this
        omega
      have we : We (cxOf (L2.CX P w) P w K mg base fn.ns f scope fa cdv A outer s H E) ⟨fn.ns, scope, ks, ki⟩ (CaD tb cls fuel d) E := by
        refine ⟨⟨⟨rfl, gd, ?_, hsys⟩, rfl, rfl, S.nd, bl, hks, hki, isa, takes_of (E₁ := fun e' s'' => L2.CX P w outer H s E e' s'') rfl rfl rfl rfl, fun Y V sm tk => ?_⟩, passes_of rfl, fun _ => rfl, S.kind⟩
        · have := room.un
          show (A.deeper _).units + 100 < cLine
          omega
        · have hA : Room d Y.A := by rw [sm.A]; exact room
          have hG : Y.A.guards = some [] := by rw [sm.A]; exact gd
          have e3 : Y.K = K := sm.K
          have e4 : Y.mg = mg := sm.mg
          have e5 : Y.base = base := sm.base
          refine calR_of hA hG tk (by rw [e3, e4]; exact hE) (by rw [e5]; exact hsys) fun g hg => ?_
          obtain ⟨gn, hgn⟩ := Option.isSome_iff_exists.mp hg
          have ih := defs_ok (cls := cls) (fuel := fuel) hd bl hks hki isa hE hsys d g gn hgn
          have e1 : Y.prog = P := sm.prog
          have e2 : Y.w = w := sm.w
          rw [e1, e2, e3, e4, e5]
          exact ih
      refine snd_Ss fn.body ck we ⟨G, H⟩ _ _ G H st _ (env_start rx (by omega)) hs ((CovZ.bnd (Cov.covZ h2)).mono fun res st' G' H' e k s' hr => ?_)
      cases res with
      | nx r' => exact fun σ' _ => CovZ.ret hr e s' _ .non
      | rt r' => exact hr G' H' e .refl s'
      | bk r' => exact hr.elim
      | ct r' => exact hr.elim
end
end LG

set_option Elab.async false
set_option linter.all false
set_option maxRecDepth 100000
set_option maxHeartbeats 4000000
/-! G20: the law's end. -/
namespace LG
open PySem L2 PySem.Spec PyProof.Rows
/-- the law's def, called with the script, from a heap in which the script alone may be tracked -/
theorem law_run {P : Program} {w : World} {K : PySem.W.Frag} {mg mb : Str → Option Value} {k : Nat} {fa a : Addr} {sp : Sp} {s₁ : Shared} {vs : List Value} {ns : List Int}
    (kin : K.In s₁.heap) (globs : s₁.heap.Ns mainGlobals mg) (blts : s₁.heap.Ns builtinsNs mb) (bltv : ∀ x : Str, x ≠ "__name__" → mb x = bootBuiltins x) (lim : s₁.heap.NoLimit) (seer : s₁.heap.NoSeer) (gens : s₁.gens = #[])
    (at_ : s₁.heap.get? a = some { cls := .type "list", data := .seq vs.toArray }) (ri : IntsAre vs ns) (hl : ns.length ≤ sizeLine) (room : Room k callerA)
    (F : ∀ base : Heap, K.In base → base.Ns mainGlobals mg → (∃ o, base.get? sysModules = some o) → FnG P w K mg base k fa sp)
    (promise : ∀ H : Hp, SqL K H a (ns.map V.int) → sp [.ref a] H (fun v _ => v = .bl true) fun _ _ _ => False) :
    codeAny (model P w) callerA (.call (.ref fa) ⟨[.ref a], []⟩) (fun r s' => r = .ok (.ret (.bool true)) ∧ OldK s₁.heap s'.heap ∧ s'.os = s₁.os ∧ AllBare s'.gens) s₁ := by
  have rv := L2.vals_ints ri
  have lv : vs.length = ns.length := ri.length
  have go : ∀ H : Hp, (∀ b u, H b = some u → b = a ∧ K.lookup a = none ∧ u = .frz { cls := .type "list", data := .seq vs.toArray } (.lst (ns.map V.int))) → HOk P w H s₁.heap → SqL K H a (ns.map V.int) →
      codeAny (model P w) callerA (.call (.ref fa) ⟨[.ref a], []⟩) (fun r s' => r = .ok (.ret (.bool true)) ∧ OldK s₁.heap s'.heap ∧ s'.os = s₁.os ∧ AllBare s'.gens) s₁ := by
    intro H only hok hS
    have free : ∀ {b : Addr} {o : Obj}, s₁.heap.get? b = some o → (∀ its n, o.data ≠ .seq its n) → H b = none := fun {b o} e ne => by
      cases q : H b with
      | none => rfl
      | some u =>
        obtain ⟨rfl, _, _⟩ := only b u q
        rw [at_] at e; cases e
        exact absurd rfl (ne _ _)
    have ns' : ∀ {b : Addr} {m : Str → Option Value}, s₁.heap.Ns b m → (hidT s₁.heap H).Ns b m := by
      rintro b m ⟨o, es, ep, e, d, r⟩
      exact ⟨o, es, ep, hidT_get e (free e fun its n z => by rw [d] at z; cases z), d, r⟩
    have kb : K.In (hidT s₁.heap H) := fun b o e => hidT_get (kin b o e) (by
      cases q : H b with
      | none => rfl
      | some u =>
        obtain ⟨rfl, hk, _⟩ := only b u q
        rw [hk] at e; cases e)
    have md : Mod K mg (hidT s₁.heap H) := ⟨kb, ns' globs, ⟨mb, ns' blts, bltv⟩, by obtain ⟨mc, h1, h2⟩ := lim; exact ⟨mc, ns' h1, h2⟩⟩
    have sysm : ∃ o, (hidT s₁.heap H).get? sysModules = some o := by
      obtain ⟨mm, hm, _⟩ := seer.mods
      obtain ⟨o, es, ep, e, _⟩ := ns' hm
      exact ⟨o, e⟩
    have e0 : Env0 P w K mg (hidT s₁.heap H) callerA [] s₁ H := ⟨rfl, md, fun b o e => of_hidT e, Nat.le_of_eq (hidT_size _ _), trivial, fun b hb => (nomatch hb), hok, .of_eq gens⟩
    refine codeAny_mono ((F _ kb (ns' globs) sysm).run callerA [] s₁ H [.ref a] [.ref a] _ _ room rfl e0 (.cons rfl .nil) (promise H hS)) fun r s' hr => ?_
    cases r with
    | error e =>
      obtain ⟨_, _, _, _, _, _, _, _, _, _, _, _, z⟩ := hr
      exact z.elim
    | ok fl =>
      cases fl with
      | ret u =>
        obtain ⟨v, H', hos, hbare, un, hok', r', hv⟩ := hr
        have hv : v = .bl true := hv
        subst hv
        obtain rfl : u = Value.bool true := r'
        refine ⟨rfl, OldK.of_keep fun b o e => ?_, hos, hbare⟩
        cases q : H b with
        | none => exact un.keep b o e q (fun z => (nomatch z)) (by simp)
        | some u =>
          obtain ⟨rfl, _, rfl⟩ := only b u q
          have q2 := un.frzs _ _ _ q
          obtain ⟨e1, _⟩ := hok _ _ q
          obtain ⟨e2, _⟩ := hok' _ _ q2
          rw [e] at e1; cases e1
          exact e2
      | _ => exact False.elim hr
  cases hk : K.lookup a with
  | some o =>
    have e := kin a o hk
    rw [at_] at e; cases e
    exact go (fun _ => none) (fun b u z => (nomatch z)) (fun b u z => (nomatch z)) (.inr ⟨_, vs.toArray, _, hk, rfl, rfl, rfl, by rw [List.size_toArray, lv]; exact hl, by simpa using rv⟩)
  | none =>
    have one : ∀ (b : Addr) (u : HO), (if b = a then some (HO.frz { cls := .type "list", data := .seq vs.toArray } (.lst (ns.map V.int))) else none) = some u → b = a ∧ u = .frz { cls := .type "list", data := .seq vs.toArray } (.lst (ns.map V.int)) := fun b u z => by
      by_cases q : b = a
      · rw [if_pos q] at z; cases z; exact ⟨q, rfl⟩
      · rw [if_neg q] at z; cases z
    refine go (fun b => if b = a then some (HO.frz { cls := .type "list", data := .seq vs.toArray } (.lst (ns.map V.int))) else none) (fun b u z => ⟨(one b u z).1, hk, (one b u z).2⟩) (fun b u z => ?_) (.inl (.inr ⟨_, if_pos rfl⟩))
    obtain ⟨rfl, rfl⟩ := one b u z
    exact ⟨at_, by rw [List.length_map]; exact hl, vs, _, rv, at_⟩
def G00 : Gh := ⟨fun _ => none, fun _ => False, fun _ _ h => (nomatch h)⟩
/-- THE LAW: what is left is the evaluator's answer -/
theorem walk_LG {l : PySem.W.OpenLaw} {q : Program} {loose : List Str} {XP : (Str → Option Value) → Heap → Prop} {YP : World → Heap → Prop} {d : DefRec} {tb : Tb} {cls : List Str} {fuel k : Nat} {ks : List (Str × Str)} {ki : List (Str × Int)} {fn : Fn}
    (hn : l.most = some 63) (hdf : d.params.defaults = []) (room : Room k callerA) (imp : importsNone q = true) (hf : tb.lookup d.name = some fn)
    (F : ∀ (w : World) (mg : Str → Option Value) (h : Heap), YP w h → h.Ns mainGlobals mg → ∃ K : PySem.W.Frag, K.In h ∧ (∀ f fn, tb.lookup f = some fn → DefF K mg ks ki f fn) ∧ (∀ n ∈ bltN, mg n = none) ∧ (∀ n s, (n, s) ∈ ks → ∃ t, mg n = some (.str s t)) ∧ (∀ n i, (n, i) ∈ ki → ∃ t, mg n = some (.int i t)) ∧ IsaT K mg cls ∧ ∀ n ∈ cls, n ∈ errN → ErrT K mg n)
    (ans : ∀ ns : List Int, ns.length ≤ 63 → (∀ z ∈ ns, Builtin.Int.intBits z ≤ 1048576) → ∃ st, callD tb cls fuel k d.name [.scr (ns.map .int)] [] = .ok (.vl (.bl true)) st) :
    PySem.W.WalkO q loose XP YP l.row.toRowW d [] (fun f vs => PySem.call f vs) := by
  refine Att.attach_callB hn hdf fun w s₀ s₁ mg mb fa o pm cd doc a vs ns G Y ho hd hcd hmg hobj hints hlen hbits hg => ?_
  obtain ⟨K, kin, h1, h2, h3, h3', h4, h5⟩ := F w mg _ Y G.T.g
  obtain ⟨st, hst⟩ := ans ns hlen hbits
  refine law_run (k := k) (sp := spD K mg tb cls fuel k d.name) kin G.T.g G.T.b G.T.builtins G.T.nolimit (G.T.seer imp) hg hobj hints (Nat.le_trans hlen (by rw [sizeLine_eq]; decide)) room (fun base kb _ sys => ?_) fun H hS => ?_
  · obtain ⟨fa', hm, _, FG⟩ := defs_ok (P := l.prog) (w := w) (base := base) (fuel := fuel) h1 h2 h3 h3' h4 h5 sys k d.name fn hf
    rw [hm] at hmg; cases hmg
    exact FG
  · refine ⟨G00, [], [.scr (ns.map .int)], ⟨fun i o e => by simp at e, fun i j a h => (nomatch h), fun _ _ => rfl, fun a h => h.elim⟩, .cons (.inl (.scr ?_ (nums_rv ns))) .nil, ?_⟩
    · rcases hS with h | h
      · exact .inl ⟨fun z => z, h⟩
      · exact .inr h
    · rw [hst]
      intro G' H' e s v r
      cases r
      rfl
end LG

set_option Elab.async false
set_option linter.all false
set_option maxRecDepth 100000
set_option maxHeartbeats 4000000
/-! HK: the head's facts: any checks of a part of the heap. -/
namespace LG
open PySem L2 PySem.Spec PyProof.Rows
abbrev Ck : Type := PySem.W.Frag → Bool
abbrev AlF : Type := Bool × He.AlD
def obsF (cs : List Ck) (fa : List He.Fa) (fn : List He.DefD) (K : PySem.W.Frag) : AlF := (cs.all fun c => c K, He.obsD fa fn K)
def valF (fn : List He.DefD) : AlF := (true, He.valD fn)
def SaysF (cs : List Ck) (fa : List He.Fa) (fn : List He.DefD) (K : PySem.W.Frag) : Prop := obsF cs fa fn K = valF fn
def obsFG (n : Nat) (cs : List Ck) (fa : List He.Fa) (fn : List He.DefD) (g : Addr → Option Obj) : AlF := obsF cs fa fn (He.frG g (cStatics :: He.asD g n))
def hookF (n : Nat) (cs : List Ck) (fa : List He.Fa) (fn : List He.DefD) : PySem.W.Hook where
  α := AlF
  obs := fun s => obsFG n cs fa fn s.heap.get?
  val := fun _ => valF fn
  says := fun _ h => ∃ K : PySem.W.Frag, K.In h ∧ SaysF cs fa fn K
  of := fun _ _ e => ⟨_, He.frG_in, e⟩
  keeps := fun _ _ _ ⟨K, hK, c⟩ k => ⟨K, PySem.W.Frag.In.keeps hK k, c⟩
theorem obsFG_eq {n : Nat} {cs : List Ck} {fa : List He.Fa} {fn : List He.DefD} {g : Addr → Option Obj} {s : Shared} (h : ∀ a, g a = s.heap.get? a) : obsFG n cs fa fn g = (hookF n cs fa fn).obs s := by
  have e : g = s.heap.get? := funext h
  rw [e] <;> rfl
section
variable {cs : List Ck} {fa : List He.Fa} {fn : List He.DefD} {K : PySem.W.Frag}
theorem SaysF.d (c : SaysF cs fa fn K) : He.SaysD fa fn K := congrArg (fun z : AlF => z.2) c
theorem SaysF.ck (c : SaysF cs fa fn K) (i : Nat) {f : Ck} (h : cs[i]? = some f := by rfl) : f K = true := by
  have c1 : (cs.all fun c => c K) = true := congrArg (fun z : AlF => z.1) c
  exact List.all_eq_true.mp c1 f (List.mem_of_getElem? h)
end
/-! ### the classes -/
def eqOB (a b : Option (Option Value)) : Bool := decide (a = b)
/-- a class of errors: its shape -/
def oexB (K : PySem.W.Frag) (C : Addr) : Bool := match K.lookup C with
  | some ⟨.type "type", _, .cls cd, sl⟩ => (match cd.mro, sl.toList with
    | .ref C' :: bm, [_, _, _, _, some (.builtin n), _] => C' == C && n == "ValueError.__new__" && !cd.hasDel && cd.hasDict && PySem.HandSPX.refsVE bm
    | _, _ => false)
  | _ => false
theorem oexB_ok {K : PySem.W.Frag} {C : Addr} (q : oexB K C = true) : ∃ nm q N bs bm sn sub ab col dd k0 k1 k2 k3 k5, K.lookup C = some (excClassObj nm q C N bs bm true sn sub ab col dd k0 k1 k2 k3 k5 "ValueError.__new__") ∧ PySem.HandSPX.refsVE bm = true := by
  unfold oexB at q
  split at q
  · rename_i dd cd sl ho
    split at q
    · rename_i C' bm k0 k1 k2 k3 n k5 hm hs
      simp only [Bool.and_eq_true, beq_iff_eq, Bool.not_eq_true'] at q
      obtain ⟨⟨⟨⟨rfl, rfl⟩, hdel⟩, hdc⟩, ht⟩ := q
      obtain ⟨nm, bs, mro, ns, qn, hd, sn, sub, ab, col, del⟩ := cd
      dsimp only at hm hdel hdc
      subst hm hdel hdc
      have hsl : sl = #[k0, k1, k2, k3, some (.builtin "ValueError.__new__"), k5] := by
        obtain ⟨l⟩ := sl
        simp only at hs
        rw [hs]
      subst hsl
      exact ⟨_, _, _, _, _, _, _, _, _, _, _, _, _, _, _, ho, ht⟩
    · cases q
  · cases q
theorem and2 {a b : Bool} (h : (a && b) = true) : a = true ∧ b = true := Bool.and_eq_true_iff.mp h
/-- a class of errors: all that is asked -/
def errB (n : Str) (K : PySem.W.Frag) : Bool :=
  (oexB K (He.ga K n) && (eqOB (PySem.W.findIn K (.ref (He.ga K n)) "__setattr__") (some (some (.builtin "object.__setattr__"))) && (decide (PySem.W.subIn K (.ref (He.ga K n)) (.type "BaseException") = some true) &&
    (decide (PySem.W.typeIn K (.ref (He.ga K n)) = some (.type "type")) && PySem.W.keepIn K (.ref (He.ga K n)))))) &&
  ((eqOB (PySem.W.findIn K (.ref (He.ga K n)) "__getattribute__") (some (some (.builtin "BaseException.__getattribute__"))) && (eqOB (PySem.W.findIn K (.ref (He.ga K n)) "__getattr__") (some none) && (PySem.W.hasDictIn K (He.ga K n) &&
    (eqOB (PySem.W.findIn K (.ref (He.ga K n)) "__class__") (some (some (.builtin "object.__class__"))) && (eqOB (PySem.W.specialIn K (.builtin "object.__class__") "__get__") (some (some (.builtin "getset_descriptor.__get__"))) &&
      (decide (PySem.W.takesIn K (.builtin "object.__class__") = some true) && decide (PySem.W.mroIn K (He.ga K n) (.type "object") = some true))))))) &&
  (eqOB (PySem.W.findIn K (.ref (He.ga K n)) (attrOf n)) (some none) && (eqOB (PySem.W.findIn K (.ref (He.ga K n)) "__init__") (some (some (.ref (He.ma K (He.ga K n) "__init__")))) &&
    decide (PySem.W.typeIn K (.ref (He.ma K (He.ga K n) "__init__")) = some (.type "function")))))
theorem errB_ok {n : Str} {K : PySem.W.Frag} (h : errB n K = true) : ErrC K (He.ga K n) (He.ma K (He.ga K n) "__init__") ∧ ExcC K (He.ga K n) ∧ PySem.W.findIn K (.ref (He.ga K n)) (attrOf n) = some none := by
  unfold errB at h
  obtain ⟨h1, h2⟩ := and2 h
  obtain ⟨a1, h1⟩ := and2 h1
  obtain ⟨a2, h1⟩ := and2 h1
  obtain ⟨a3, h1⟩ := and2 h1
  obtain ⟨a4, a5⟩ := and2 h1
  obtain ⟨h2, h3⟩ := and2 h2
  obtain ⟨b1, h2⟩ := and2 h2
  obtain ⟨b2, h2⟩ := and2 h2
  obtain ⟨b3, h2⟩ := and2 h2
  obtain ⟨b4, h2⟩ := and2 h2
  obtain ⟨b5, h2⟩ := and2 h2
  obtain ⟨b6, b7⟩ := and2 h2
  obtain ⟨c1, h3⟩ := and2 h3
  obtain ⟨c2, c3⟩ := and2 h3
  exact ⟨⟨⟨oexB_ok a1, of_decide_eq_true a2, of_decide_eq_true a3, of_decide_eq_true a4, a5⟩, of_decide_eq_true c2, of_decide_eq_true c3⟩,
    ⟨of_decide_eq_true b1, of_decide_eq_true b2, of_decide_eq_true a3, b3, of_decide_eq_true b4, of_decide_eq_true b5, of_decide_eq_true b6, of_decide_eq_true b7⟩, of_decide_eq_true c1⟩
/-- a class of the program's own -/
def ownB (n : Str) (K : PySem.W.Frag) : Bool := (He.Fa.cls n).ok K && (eqOB (PySem.W.findIn K (.ref (He.ga K n)) "__class__") (some (some (.builtin "object.__class__"))) &&
  (eqOB (PySem.W.specialIn K (.builtin "object.__class__") "__get__") (some (some (.builtin "getset_descriptor.__get__"))) && (decide (PySem.W.takesIn K (.builtin "object.__class__") = some true) && decide (PySem.W.mroIn K (He.ga K n) (.type "object") = some true))))
theorem ownB_ok {n : Str} {K : PySem.W.Frag} (h : ownB n K = true) : OwnC K (He.ga K n) := by
  obtain ⟨h1, h⟩ := and2 h
  obtain ⟨h2, h⟩ := and2 h
  obtain ⟨h3, h⟩ := and2 h
  obtain ⟨h4, h5⟩ := and2 h
  exact ⟨He.cls_ok h1, of_decide_eq_true h2, of_decide_eq_true h3, of_decide_eq_true h4, of_decide_eq_true h5⟩
/-- isinstance among the classes -/
def isaB (cls : List Str) (K : PySem.W.Frag) : Bool :=
  (cls.all fun n => if n ∈ errN then errB n K else if n = "LetGoError" then true else ownB n K) && ((cls.all fun n => cls.all fun m => decide (PySem.W.kitOne K (.ref (He.ga K n)) (.ref (He.ga K m)) = some (sub2 n m))) &&
  ((["NoneType", "bool", "int", "str", "tuple", "list", "dict"].all fun t => cls.all fun m => decide (PySem.W.kitOne K (.type t) (.ref (He.ga K m)) = some false)) &&
  ((["str", "int", "bool", "list", "tuple", "dict"].all fun t => cls.all fun m => decide (PySem.W.kitOne K (.ref (He.ga K m)) (.type t) = some false)) &&
  cls.all fun m => if m ∈ errN then decide (PySem.W.kitOne K (.ref (He.ga K m)) (.type "ValueError") = some true) else true)))
theorem isaB_ok {cls : List Str} {K : PySem.W.Frag} {mg : Str → Option Value} (h : isaB cls K = true) (hm : ∀ n ∈ cls, mg n = some (.ref (He.ga K n))) : IsaT K mg cls := by
  obtain ⟨h1, h⟩ := and2 h
  obtain ⟨h2, h⟩ := and2 h
  obtain ⟨h3, h⟩ := and2 h
  obtain ⟨h4, h5⟩ := and2 h
  have at_ : ∀ {n : Str} {C : Addr}, n ∈ cls → mg n = some (.ref C) → C = He.ga K n := fun {n C} hn e => by
    rw [hm n hn] at e
    cases e
    rfl
  refine ⟨fun n hn => ⟨_, hm n hn⟩, fun n hn hne C e => ?_, fun n hn hne C e => ?_, fun n hn m hm' C D e1 e2 => ?_, fun t ht m hm' D e => ?_, fun t ht m hm' D e => ?_, fun m hm' hne D e => ?_⟩
  · obtain rfl := at_ hn e
    have q := List.all_eq_true.mp h1 n hn
    rw [if_neg fun z => hne (.inl z), if_neg fun z => hne (.inr z)] at q
    exact ownB_ok q
  · obtain rfl := at_ hn e
    have q := List.all_eq_true.mp h1 n hn
    rw [if_pos hne] at q
    exact (errB_ok q).2
  · obtain rfl := at_ hn e1
    obtain rfl := at_ hm' e2
    exact of_decide_eq_true (List.all_eq_true.mp (List.all_eq_true.mp h2 n hn) m hm')
  · obtain rfl := at_ hm' e
    exact of_decide_eq_true (List.all_eq_true.mp (List.all_eq_true.mp h3 t ht) m hm')
  · obtain rfl := at_ hm' e
    exact of_decide_eq_true (List.all_eq_true.mp (List.all_eq_true.mp h4 t ht) m hm')
  · obtain rfl := at_ hm' e
    have q := List.all_eq_true.mp h5 m hm'
    rw [if_pos hne] at q
    exact of_decide_eq_true q
theorem isaB_err {cls : List Str} {K : PySem.W.Frag} (h : isaB cls K = true) {n : Str} (hn : n ∈ cls) (hne : n ∈ errN) : errB n K = true := by
  have q := List.all_eq_true.mp (and2 h).1 n hn
  rw [if_pos hne] at q
  exact q
/-- one error's __init__, from its text -/
theorem errT_of {K : PySem.W.Frag} {mg : Str → Option Value} {n x qual lg sf v : Str} {params : Arguments} {body : List Stmt} {scope : Scope} {fd : FuncData} (hb : errB n K = true) (hm : mg n = some (.ref (He.ga K n)))
    (F : FunD K x qual params body scope [] [] (He.ma K (He.ga K n) "__init__") fd) (S : FnScope [sf, v] [sf, v] scope) (ck : iniB ⟨[sf, v], scope, [], []⟩ lg (attrOf n) (preOf n) body = true) (T : lgeB K (He.ga K lg) = true) (hl : mg lg = some (.ref (He.ga K lg)))
    (bl : ∀ n ∈ bltN, mg n = none) (b1 : ∀ (s : Shared) (a : Addr) (u : Value), K.In s.heap → BindsTo s fd ⟨[.ref a, u], []⟩ ([sf, v].zip [.ref a, u])) (b2 : ∀ (s : Shared) (a : Addr) (u : Value), K.In s.heap → BindsTo s fd ⟨[.ref a], [(attrOf n, u)]⟩ ([sf, v].zip [.ref a, u])) : ErrT K mg n := by
  obtain ⟨E, _, hf⟩ := errB_ok hb
  exact ⟨_, _, fd, [sf, v], hm, E, hf, fun P w base sys => ini_fna (N := []) F S ck (lgeB_ok T) hl bl sys, b1, b2⟩
end LG
namespace LG
open PySem L2 PySem.Spec PyProof.Rows
/-- a class's text, its j-th statement -/
def mth (s : Stmt) (j : Nat) : Stmt := match s with
  | .ClassDef _ _ _ body _ _ _ _ _ _ _ => body.getD j (.Pass ⟨0, 0, 0, 0⟩)
  | _ => .Pass ⟨0, 0, 0, 0⟩
theorem bindsKw {K : PySem.W.Frag} {x qual : Str} {params : Arguments} {body : List Stmt} {scope : Scope} {kws : List (Str × V)} {f : Addr} {fd : FuncData} {us : List Value} {kw bs : List (Str × Value)} (F : FunD K x qual params body scope [] kws f fd)
    (h : ∀ (kV doc pm : Value) (an : Option Addr) (cdv ct : Value), bindArgs (PySem.W.fnOf x qual params body scope .none kV doc pm an cdv ct) ⟨us, kw⟩ = pure bs) (s : Shared) : BindsTo s fd ⟨us, kw⟩ bs := by
  obtain ⟨oc, od, dV, kV, doc, pm, an, cdv, ct, osl, rfl, lk, hcd, hD, hK⟩ := F.ex
  rcases hD with ⟨_, rfl⟩ | ⟨e, _⟩
  · exact .of_eq (h kV doc pm an cdv ct)
  · exact absurd rfl e
end LG

set_option Elab.async false
set_option linter.all false
set_option maxRecDepth 100000
set_option maxHeartbeats 4000000
/-! G21: what the evaluator answers, by steps. -/
namespace LG
open PySem L2
def Ev1 {α : Type} (m : M α) (st : Sto) (P : α → Sto → Prop) : Prop := ∃ a st', m st = .ok a st' ∧ P a st'
section
variable {α β : Type} {m : M α} {f : α → M β} {st : Sto} {P : α → Sto → Prop} {R : β → Sto → Prop}
theorem ev_bnd : Ev1 (bnd m f) st R ↔ Ev1 m st (fun a st' => Ev1 (f a) st' R) := by
  constructor
  · rintro ⟨b, st', e, p⟩
    unfold bnd at e
    cases q : m st with
    | ok a s => rw [q] at e; exact ⟨a, s, q, b, st', e, p⟩
    | exc n x s => rw [q] at e; cases e
    | bad => rw [q] at e; cases e
  · rintro ⟨a, s, e, b, st', e2, p⟩
    exact ⟨b, st', by rw [bnd_ok e]; exact e2, p⟩
theorem ev_ret {a : α} : Ev1 (LG.ret a) st P ↔ P a st := by
  constructor
  · rintro ⟨b, s, e, p⟩; cases e; exact p
  · exact fun p => ⟨a, st, rfl, p⟩
theorem ev_look {g : Sto → Option α} : Ev1 (look g) st P ↔ ∃ a, g st = some a ∧ P a st := by
  constructor
  · rintro ⟨b, s, e, p⟩
    unfold look at e
    cases q : g st with
    | none => rw [q] at e; cases e
    | some a => rw [q] at e; cases e; exact ⟨_, rfl, p⟩
  · rintro ⟨a, e, p⟩
    exact ⟨a, st, by unfold look; rw [e], p⟩
theorem ev_opt {o : Option α} : Ev1 (opt o) st P ↔ ∃ a, o = some a ∧ P a st := by
  cases o with
  | none => constructor
            · rintro ⟨_, _, e, _⟩; cases e
            · rintro ⟨_, e, _⟩; cases e
  | some a => exact ev_ret.trans ⟨fun p => ⟨a, rfl, p⟩, fun ⟨b, e, p⟩ => by cases e; exact p⟩
theorem ev_bad : Ev1 (bad : M α) st P ↔ False := ⟨fun ⟨_, _, e, _⟩ => (nomatch e), False.elim⟩
theorem ev_mono {Q : α → Sto → Prop} (h : Ev1 m st P) (k : ∀ a s, P a s → Q a s) : Ev1 m st Q := let ⟨a, s, e, p⟩ := h; ⟨a, s, e, k a s p⟩
theorem ev_noX : Ev1 (noX m) st P ↔ Ev1 m st P := by
  constructor
  · rintro ⟨b, s, e, p⟩
    unfold noX at e
    cases q : m st with
    | ok a s' => rw [q] at e; cases e; exact ⟨_, _, q, p⟩
    | exc n x s' => rw [q] at e; cases e
    | bad => rw [q] at e; cases e
  · rintro ⟨a, s, e, p⟩
    exact ⟨a, s, by unfold noX; rw [e], p⟩
theorem ev_ite {c : Prop} [Decidable c] {m n : M α} : Ev1 (if c then m else n) st P ↔ (if c then Ev1 m st P else Ev1 n st P) := by
  split <;> rfl
end
theorem ev_set {C : Ca} {o i v : E} {r : Ev} {st : Sto} {P : Res → Sto → Prop} : Ev1 (evS C (.setI o i v) r) st P ↔ Ev1 (evE C v r) st (fun z st1 => Ev1 (evE C o r) st1 (fun x st2 => Ev1 (evE C i r) st2 (fun y st3 => ∃ st4, setIM st3 x y z = some st4 ∧ P (.nx r) st4))) := by
  have e : evS C (.setI o i v) r = bnd (evE C v r) fun z => bnd (evE C o r) fun x => bnd (evE C i r) fun y => fun st => match setIM st x y z with
    | some st' => .ok (.nx r) st'
    | none => .bad := rfl
  rw [e, ev_bnd]
  simp only [ev_bnd]
  have k : ∀ x y z st3, Ev1 (fun st => match setIM st x y z with
    | some st' => Out.ok (Res.nx r) st'
    | none => .bad) st3 P ↔ ∃ st4, setIM st3 x y z = some st4 ∧ P (.nx r) st4 := fun x y z st3 => by
    constructor
    · rintro ⟨b, s, e, p⟩
      cases q : setIM st3 x y z with
      | none => simp only [q] at e; cases e
      | some s' => simp only [q] at e; cases e; exact ⟨_, rfl, p⟩
    · rintro ⟨s, e, p⟩
      exact ⟨_, s, by simp only [e], p⟩
  simp only [k]
theorem ev_asg {C : Ca} {i : Nat} {e : E} {r : Ev} {st : Sto} {P : Res → Sto → Prop} : Ev1 (evS C (.asg (.nm i) e) r) st P ↔ Ev1 (evE C e r) st (fun x st' => notBor x = true ∧ P (.nx (r.set i (.v x))) st') := by
  have q : evS C (.asg (.nm i) e) r = bnd (evE C e r) fun x => bnd (opt (if notBor x then some (r.set i (.v x)) else none)) fun r' => LG.ret (.nx r') := rfl
  rw [q, ev_bnd]
  simp only [ev_bnd, ev_opt, ev_ret]
  constructor
  · exact fun h => ev_mono h fun x s ⟨r', e, p⟩ => by
      by_cases hb : notBor x = true
      · rw [if_pos hb] at e; cases e; exact ⟨hb, p⟩
      · rw [if_neg hb] at e; cases e
  · exact fun h => ev_mono h fun x s ⟨hb, p⟩ => ⟨_, if_pos hb, p⟩
/-! ### one row for each form of the language -/
section
variable {C : Ca} {r : Ev} {st : Sto} {P : Vl → Sto → Prop} {B : Bool → Sto → Prop} {S1 : Res → Sto → Prop} {L : List Vl → Sto → Prop} {O1 : Option Int → Sto → Prop} {F1 : Ob → Sto → Prop}
theorem e_tru {m : M Vl} : Ev1 (tru m).1 st P ↔ Ev1 m st P := Iff.rfl
theorem t_tru {m : M Vl} : Ev1 (tru m).2 st B ↔ Ev1 m st (fun x s => ∃ b, truM s x = some b ∧ B b s) := by
  show Ev1 (bnd m fun x => look fun st => truM st x) st B ↔ _
  simp only [ev_bnd, ev_look]
theorem e_var {i : Nat} : Ev1 (evB C (.var i) r).1 st P ↔ ∃ x, r[i]? = some (.v x) ∧ P x st := by
  show Ev1 (slV r[i]?) st P ↔ _
  cases q : r[i]? with
  | none => exact ⟨fun h => (ev_bad.mp h).elim, fun ⟨_, e, _⟩ => nomatch e⟩
  | some sl =>
    cases sl with
    | v x => exact ev_ret.trans ⟨fun p => ⟨x, rfl, p⟩, fun ⟨y, e, p⟩ => by cases e; exact p⟩
    | _ => exact ⟨fun h => (ev_bad.mp h).elim, fun ⟨_, e, _⟩ => nomatch e⟩
theorem e_own {i : Nat} : Ev1 (evB C (.own i) r).1 st P ↔ ∃ x, r[i]? = some (.l x) ∧ P (.bor x) st := by
  show Ev1 (slO r[i]?) st P ↔ _
  cases q : r[i]? with
  | none => exact ⟨fun h => (ev_bad.mp h).elim, fun ⟨_, e, _⟩ => nomatch e⟩
  | some sl =>
    cases sl with
    | l x => exact ev_ret.trans ⟨fun p => ⟨x, rfl, p⟩, fun ⟨y, e, p⟩ => by cases e; exact p⟩
    | _ => exact ⟨fun h => (ev_bad.mp h).elim, fun ⟨_, e, _⟩ => nomatch e⟩
theorem e_int {i : Int} : Ev1 (evB C (.int i) r).1 st P ↔ P (.int i) st := ev_ret
theorem e_bl {i : Bool} : Ev1 (evB C (.bl i) r).1 st P ↔ P (.bl i) st := ev_ret
theorem e_str {i : Str} : Ev1 (evB C (.str i) r).1 st P ↔ P (.str i) st := ev_ret
theorem e_non : Ev1 (evB C .non r).1 st P ↔ P .non st := ev_ret
theorem e_gstr {n i : Str} : Ev1 (evB C (.gstr n i) r).1 st P ↔ P (.str i) st := ev_ret
theorem e_gint {n : Str} {i : Int} : Ev1 (evB C (.gint n i) r).1 st P ↔ P (.int i) st := ev_ret
theorem e_bin {o : Bop} {a b : E} : Ev1 (evB C (.bin o a b) r).1 st P ↔ Ev1 (evB C a r).1 st (fun x s => Ev1 (evB C b r).1 s (fun y s => ∃ z, binM o s x y = some z ∧ P z s)) := by
  show Ev1 (bnd ((evB C a r).1) fun x => bnd ((evB C b r).1) fun y => look fun st => binM o st x y) st P ↔ _
  simp only [ev_bnd, ev_look]
theorem e_idx {a b : E} : Ev1 (evB C (.idx a b) r).1 st P ↔ Ev1 (evB C a r).1 st (fun x s => Ev1 (evB C b r).1 s (fun y s => ∃ z, idxM s x y = some z ∧ P z s)) := by
  show Ev1 (bnd ((evB C a r).1) fun x => bnd ((evB C b r).1) fun y => look fun st => idxM st x y) st P ↔ _
  simp only [ev_bnd, ev_look]
theorem t_cmp {o : Cop} {a b : E} : Ev1 (evB C (.cmp o a b) r).2 st B ↔ Ev1 (evB C a r).1 st (fun x s => Ev1 (evB C b r).1 s (fun y s => ∃ z, cmpA o s x y = some z ∧ B z s)) := by
  show Ev1 (bnd ((evB C a r).1) fun x => bnd ((evB C b r).1) fun y => look fun st => cmpA o st x y) st B ↔ _
  simp only [ev_bnd, ev_look]
theorem e_cmp {o : Cop} {a b : E} : Ev1 (evB C (.cmp o a b) r).1 st P ↔ Ev1 (evB C a r).1 st (fun x s => Ev1 (evB C b r).1 s (fun y s => ∃ z, cmpA o s x y = some z ∧ P (.bl z) s)) := by
  show Ev1 (bnd (bnd ((evB C a r).1) fun x => bnd ((evB C b r).1) fun y => look fun st => cmpA o st x y) fun b => LG.ret (.bl b)) st P ↔ _
  simp only [ev_bnd, ev_look, ev_ret]
theorem s_nil : Ev1 (evSs C .nil r) st S1 ↔ S1 (.nx r) st := ev_ret
theorem s_cons {s : S} {ss : Ss} : Ev1 (evSs C (.cons s ss) r) st S1 ↔ Ev1 (evS C s r) st (fun x s => Ev1 (seqR x (evSs C ss)) s S1) := ev_bnd
theorem s_nx {f : Ev → M Res} : Ev1 (seqR (.nx r) f) st S1 ↔ Ev1 (f r) st S1 := Iff.rfl
theorem s_rt {x : Rt} {f : Ev → M Res} : Ev1 (seqR (.rt x) f) st S1 ↔ S1 (.rt x) st := ev_ret
theorem s_ite {c : E} {a b : Ss} : Ev1 (evS C (.ite c a b) r) st S1 ↔ Ev1 (evB C c r).2 st (fun k s => if k = true then Ev1 (evSs C a r) s S1 else Ev1 (evSs C b r) s S1) := by
  show Ev1 (bnd ((evB C c r).2) fun k => if k then evSs C a r else evSs C b r) st S1 ↔ _
  simp only [ev_bnd, ev_ite]
theorem s_ret {e : E} : Ev1 (evS C (.ret e) r) st S1 ↔ Ev1 (evB C e r).1 st (fun x s => notBor x = true ∧ S1 (.rt (.vl x)) s) := by
  show Ev1 (bnd ((evB C e r).1) fun x => if notBor x then LG.ret (.rt (.vl x)) else bad) st S1 ↔ _
  simp only [ev_bnd]
  constructor
  · exact fun h => ev_mono h fun x s p => by
      by_cases hb : notBor x = true
      · rw [if_pos hb] at p; exact ⟨hb, ev_ret.mp p⟩
      · rw [if_neg hb] at p; exact (ev_bad.mp p).elim
  · exact fun h => ev_mono h fun x s ⟨hb, p⟩ => by rw [if_pos hb]; exact ev_ret.mpr p
theorem es_nil : Ev1 (evEs C .nil r) st L ↔ L [] st := ev_ret
theorem es_cons {e : E} {es : Es} : Ev1 (evEs C (.cons e es) r) st L ↔ Ev1 (evB C e r).1 st (fun x s => Ev1 (evEs C es r) s (fun xs s => L (x :: xs) s)) := by
  show Ev1 (bnd ((evB C e r).1) fun x => bnd (evEs C es r) fun xs => LG.ret (x :: xs)) st L ↔ _
  simp only [ev_bnd, ev_ret]
theorem e_blt {f : Bf} {es : Es} : Ev1 (evB C (.blt f es) r).1 st P ↔ Ev1 (evEs C es r) st (fun xs s => ∃ z, bltM f s xs = some z ∧ P z s) := by
  show Ev1 (bnd (evEs C es r) fun xs => look fun st => bltM f st xs) st P ↔ _
  simp only [ev_bnd, ev_look]
theorem e_tup {es : Es} : Ev1 (evB C (.tup es) r).1 st P ↔ Ev1 (evEs C es r) st (fun xs s => (xs.length ≤ sizeLine ∧ xs.all notBor = true) ∧ P (.tup xs) s) := by
  show Ev1 (bnd (evEs C es r) fun xs => if xs.length ≤ sizeLine ∧ xs.all notBor then LG.ret (.tup xs) else bad) st P ↔ _
  simp only [ev_bnd]
  constructor
  · exact fun h => ev_mono h fun x s p => by
      by_cases hb : x.length ≤ sizeLine ∧ x.all notBor = true
      · rw [if_pos hb] at p; exact ⟨hb, ev_ret.mp p⟩
      · rw [if_neg hb] at p; exact (ev_bad.mp p).elim
  · exact fun h => ev_mono h fun x s ⟨hb, p⟩ => by rw [if_pos hb]; exact ev_ret.mpr p
theorem e_cal {f : Str} {es : Es} : Ev1 (evB C (.cal f es) r).1 st P ↔ C.has f = true ∧ Ev1 (evEs C es r) st (fun xs s => Ev1 (C.call f xs) s (fun x s => Ev1 (endV x) s P)) := by
  show Ev1 (if C.has f then bnd (evEs C es r) fun xs => bnd (C.call f xs) endV else bad) st P ↔ _
  by_cases hb : C.has f = true
  · rw [if_pos hb]
    simp only [ev_bnd]
    exact ⟨fun h => ⟨hb, h⟩, fun h => h.2⟩
  · rw [if_neg hb]
    exact ⟨fun h => (ev_bad.mp h).elim, fun h => (hb h.1).elim⟩
theorem t_and {a b : E} : Ev1 (evB C (.and a b) r).2 st B ↔ Ev1 (evB C a r).2 st (fun k s => if k = true then Ev1 (evB C b r).2 s B else B false s) := by
  show Ev1 (bnd ((evB C a r).2) fun x => if x then (evB C b r).2 else LG.ret false) st B ↔ _
  simp only [ev_bnd, ev_ite, ev_ret]
theorem t_or {a b : E} : Ev1 (evB C (.or a b) r).2 st B ↔ Ev1 (evB C a r).2 st (fun k s => if k = true then B true s else Ev1 (evB C b r).2 s B) := by
  show Ev1 (bnd ((evB C a r).2) fun x => if x then LG.ret true else (evB C b r).2) st B ↔ _
  simp only [ev_bnd, ev_ite, ev_ret]
theorem t_nt {a : E} : Ev1 (evB C (.nt a) r).2 st B ↔ Ev1 (evB C a r).2 st (fun k s => B (!k) s) := by
  show Ev1 (bnd ((evB C a r).2) fun b => LG.ret !b) st B ↔ _
  simp only [ev_bnd, ev_ret]
theorem e_ite {c a b : E} : Ev1 (evB C (.ite c a b) r).1 st P ↔ Ev1 (evB C c r).2 st (fun k s => if k = true then Ev1 (evB C a r).1 s P else Ev1 (evB C b r).1 s P) := by
  show Ev1 (bnd ((evB C c r).2) fun k => if k then (evB C a r).1 else (evB C b r).1) st P ↔ _
  simp only [ev_bnd, ev_ite]
theorem e_rev {a : E} : Ev1 (evB C (.rev a) r).1 st P ↔ Ev1 (evB C a r).1 st (fun x s => ∃ z, revM s x = some z ∧ P z s) := by
  show Ev1 (bnd ((evB C a r).1) fun x => look fun st => revM st x) st P ↔ _
  simp only [ev_bnd, ev_look]
theorem o_non : Ev1 (evO C .non r) st O1 ↔ O1 none st := ev_ret
theorem o_som {e : E} : Ev1 (evO C (.som e) r) st O1 ↔ Ev1 (evB C e r).1 st (fun x s => ∃ i, x = .int i ∧ O1 (some i) s) := by
  show Ev1 (bnd ((evB C e r).1) fun x => opt (match x with | .int i => some (some i) | _ => none)) st O1 ↔ _
  simp only [ev_bnd, ev_opt]
  constructor
  · exact fun h => ev_mono h fun x s ⟨o, e, p⟩ => by
      cases x with
      | int i => cases e; exact ⟨i, rfl, p⟩
      | _ => cases e
  · exact fun h => ev_mono h fun x s ⟨i, e, p⟩ => by subst e; exact ⟨some i, rfl, p⟩
theorem e_slc {a : E} {lo hi : Eo} : Ev1 (evB C (.slc a lo hi) r).1 st P ↔ Ev1 (evB C a r).1 st (fun x s => Ev1 (evO C lo r) s (fun l s => Ev1 (evO C hi r) s (fun h s => ∃ z, slcM s x l h = some z ∧ P z s))) := by
  show Ev1 (bnd ((evB C a r).1) fun x => bnd (evO C lo r) fun l => bnd (evO C hi r) fun h => look fun st => slcM st x l h) st P ↔ _
  simp only [ev_bnd, ev_look]
theorem e_fr {f : Fr} : Ev1 (evB C (.fr f) r).1 st P ↔ Ev1 (evF C f r) st (fun o s => ∃ z, o.toVl = some z ∧ P z s) := by
  show Ev1 (bnd (evF C f r) frozen) st P ↔ _
  rw [ev_bnd]
  constructor
  · exact fun h => ev_mono h fun o s p => ev_opt.mp p
  · exact fun h => ev_mono h fun o s p => ev_opt.mpr p
theorem e_mko {f : Fr} : Ev1 (evB C (.mko f) r).1 st P ↔ Ev1 (evF C f r) st (fun o s => P (.obj s.length) (s ++ [o])) := by
  show Ev1 (bnd (evF C f r) alloc) st P ↔ _
  rw [ev_bnd]
  constructor
  · exact fun h => ev_mono h fun o s ⟨a, s', e, p⟩ => by cases e; exact p
  · exact fun h => ev_mono h fun o s p => ⟨_, _, rfl, p⟩
theorem f_cal {f : Str} {es : Es} : Ev1 (evF C (.cal f es) r) st F1 ↔ C.has f = true ∧ Ev1 (evEs C es r) st (fun xs s => Ev1 (C.call f xs) s (fun x s => Ev1 (endF x) s F1)) := by
  show Ev1 (if C.has f then bnd (evEs C es r) fun xs => bnd (C.call f xs) endF else bad) st F1 ↔ _
  by_cases hb : C.has f = true
  · rw [if_pos hb]
    simp only [ev_bnd]
    exact ⟨fun h => ⟨hb, h⟩, fun h => h.2⟩
  · rw [if_neg hb]
    exact ⟨fun h => (ev_bad.mp h).elim, fun h => (hb h.1).elim⟩
theorem f_blt {f : Ff} {a : E} : Ev1 (evF C (.blt f a) r) st F1 ↔ Ev1 (evB C a r).1 st (fun x s => ∃ z, frM f s x = some z ∧ F1 z s) := by
  show Ev1 (bnd ((evB C a r).1) fun x => look fun st => frM f st x) st F1 ↔ _
  simp only [ev_bnd, ev_look]
theorem s_retF {f : Fr} : Ev1 (evS C (.retF f) r) st S1 ↔ Ev1 (evF C f r) st (fun o s => S1 (.rt (.fr o)) s) := by
  show Ev1 (bnd (evF C f r) fun o => LG.ret (.rt (.fr o))) st S1 ↔ _
  simp only [ev_bnd, ev_ret]
/-- a loop by its invariant -/
theorem for_inv {f : Vl → Ev → M Res} (I : List Vl → Ev → Sto → Prop) (step : ∀ x xs r st, I (x :: xs) r st → Ev1 (f x r) st (fun y s => match y with
    | .nx r' => I xs r' s
    | .ct r' => I xs r' s
    | .bk r' => S1 (.nx r') s
    | .rt v => S1 (.rt v) s)) (fin : ∀ r st, I [] r st → S1 (.nx r) st) : ∀ (xs : List Vl) (r : Ev) (st : Sto), I xs r st → Ev1 (forL f xs r) st S1
  | [], r, st, h => ev_ret.mpr (fin r st h)
  | x :: xs, r, st, h => by
    show Ev1 (bnd (f x r) fun y => lpR y (forL f xs)) st S1
    rw [ev_bnd]
    refine ev_mono (step x xs r st h) fun y s p => ?_
    cases y with
    | nx r' => exact for_inv I step fin xs r' s p
    | ct r' => exact for_inv I step fin xs r' s p
    | bk r' => exact ev_ret.mpr p
    | rt v => exact ev_ret.mpr p
/-- a comprehension's loop, item by item -/
theorem comp_inv {f : Vl → M (Option Vl)} (I : List Vl → List Vl → Sto → Prop) (step : ∀ x xs acc st, I (x :: xs) acc st → Ev1 (f x) st (fun o s => I xs (acc ++ o.toList) s)) : ∀ (xs acc : List Vl) (st : Sto), I xs acc st →
    Ev1 (compL f xs) st (fun ys s => I [] (acc ++ ys) s)
  | [], acc, st, h => ev_ret.mpr (by rw [List.append_nil]; exact h)
  | x :: xs, acc, st, h => by
    show Ev1 (bnd (noX (f x)) fun o => bnd (compL f xs) fun r => LG.ret (match o with | some y => y :: r | none => r)) st _
    rw [ev_bnd, ev_noX]
    refine ev_mono (step x xs acc st h) fun o s p => ?_
    rw [ev_bnd]
    refine ev_mono (comp_inv I step xs _ s p) fun ys s2 q => ev_ret.mpr ?_
    cases o with
    | none => simpa using q
    | some y => simpa using q
theorem e_and {a b : E} : Ev1 (evB C (.and a b) r).1 st P ↔ Ev1 (evB C a r).1 st (fun x s => ∃ k, x = .bl k ∧ if k = true then Ev1 (evB C b r).1 s P else P (.bl false) s) := by
  show Ev1 (bnd (evB C a r).1 fun x => match x with
    | .bl true => (evB C b r).1
    | .bl false => LG.ret (.bl false)
    | _ => bad) st P ↔ _
  rw [ev_bnd]
  constructor
  · exact fun h => ev_mono h fun x s p => by
      split at p
      · exact ⟨true, rfl, p⟩
      · exact ⟨false, rfl, ev_ret.mp p⟩
      · exact (ev_bad.mp p).elim
  · exact fun h => ev_mono h fun x s ⟨k, e, p⟩ => by
      subst e
      cases k with
      | true => exact p
      | false => exact ev_ret.mpr p
theorem e_nt {a : E} : Ev1 (evB C (.nt a) r).1 st P ↔ Ev1 (evB C a r).1 st (fun x s => ∃ b, truM s x = some b ∧ P (.bl !b) s) := by
  show Ev1 (bnd (evB C a r).1 fun x => look fun st => (truM st x).map fun b => .bl !b) st P ↔ _
  simp only [ev_bnd, ev_look, Option.map_eq_some_iff]
  constructor
  · exact fun h => ev_mono h fun x s ⟨z, ⟨b, e, e2⟩, p⟩ => ⟨b, e, by subst e2; exact p⟩
  · exact fun h => ev_mono h fun x s ⟨b, e, p⟩ => ⟨_, ⟨b, e, rfl⟩, p⟩
theorem t_chn {o o' : Cop} {a b c : E} : Ev1 (evB C (.chn o o' a b c) r).2 st B ↔ Ev1 (evB C a r).1 st (fun x s => Ev1 (evB C b r).1 s (fun y s => ∃ k, cmpA o s x y = some k ∧ if k = true then Ev1 (evB C c r).1 s (fun z s => ∃ k', cmpA o' s y z = some k' ∧ B k' s) else B false s)) := by
  show Ev1 (bnd (evB C a r).1 fun x => bnd (evB C b r).1 fun y => bnd (look fun st => cmpA o st x y) fun k => if k then bnd (evB C c r).1 fun z => look fun st => cmpA o' st y z else LG.ret false) st B ↔ _
  simp only [ev_bnd, ev_look, ev_ite, ev_ret]
theorem f_lst {es : Es} : Ev1 (evF C (.lst es) r) st F1 ↔ Ev1 (evEs C es r) st (fun xs s => (xs.length ≤ sizeLine ∧ xs.all notBor = true) ∧ F1 (.lst xs) s) := by
  show Ev1 (bnd (evEs C es r) fun xs => if xs.length ≤ sizeLine ∧ xs.all notBor then LG.ret (.lst xs) else bad) st F1 ↔ _
  simp only [ev_bnd]
  constructor
  · exact fun h => ev_mono h fun x s p => by
      by_cases hb : x.length ≤ sizeLine ∧ x.all notBor = true
      · rw [if_pos hb] at p; exact ⟨hb, ev_ret.mp p⟩
      · rw [if_neg hb] at p; exact (ev_bad.mp p).elim
  · exact fun h => ev_mono h fun x s ⟨hb, p⟩ => by rw [if_pos hb]; exact ev_ret.mpr p
theorem e_isi {a : E} {cs : List Cn} : Ev1 (evB C (.isi a cs) r).1 st P ↔ (cs.all (okC C.cls) = true ∧ cs.length ≤ 64) ∧ Ev1 (evB C a r).1 st (fun x s => ∃ z, isiM C.cls cs s x = some z ∧ P z s) := by
  show Ev1 (if cs.all (okC C.cls) ∧ cs.length ≤ 64 then bnd ((evB C a r).1) fun x => look fun st => isiM C.cls cs st x else bad) st P ↔ _
  by_cases hb : cs.all (okC C.cls) = true ∧ cs.length ≤ 64
  · rw [if_pos hb]
    simp only [ev_bnd, ev_look]
    exact ⟨fun h => ⟨hb, h⟩, fun h => h.2⟩
  · rw [if_neg hb]
    exact ⟨fun h => (ev_bad.mp h).elim, fun h => (hb h.1).elim⟩
theorem e_txt {f : Tf} {a : E} {es : Es} : Ev1 (evB C (.txt f a es) r).1 st P ↔ Ev1 (evB C a r).1 st (fun x s => ∃ z, strOf x = some z ∧ Ev1 (evEs C es r) s (fun xs s => ∃ w, txtM f s (.str z) xs = some w ∧ P w s)) := by
  show Ev1 (bnd ((evB C a r).1) fun x => bnd (opt (strOf x)) fun z => bnd (evEs C es r) fun xs => look fun st => txtM f st (.str z) xs) st P ↔ _
  simp only [ev_bnd, ev_look, ev_opt]
theorem s_par {i j : Nat} {a b : Sv} : Ev1 (evS C (.par i j a b) r) st S1 ↔ Ev1 (evV C a r) st (fun x s => Ev1 (evV C b r) s (fun y s => (i != j) = true ∧ S1 (.nx ((r.set i x).set j y)) s)) := by
  show Ev1 (bnd (evV C a r) fun x => bnd (evV C b r) fun y => if i != j then LG.ret (.nx ((r.set i x).set j y)) else bad) st S1 ↔ _
  simp only [ev_bnd]
  by_cases hb : (i != j) = true
  · simp only [hb, if_true, ev_ret, true_and]
  · have hb' : (i != j) = false := by simpa using hb
    simp only [hb', Bool.false_eq_true, if_false, ev_bad, false_and]
theorem s_forr {t : T} {it : It} {b : Ss} : Ev1 (evS C (.forr t it b) r) st S1 ↔ Ev1 (evI C false it r) st (fun xs s => Ev1 (forL (fun x r => bnd (opt (bindT t x r)) fun r' => evSs C b r') xs r) s S1) := by
  show Ev1 (bnd (evI C false it r) fun xs => forL (fun x r => bnd (opt (bindT t x r)) fun r' => evSs C b r') xs r) st S1 ↔ _
  rw [ev_bnd]
theorem i_seq {cm : Bool} {e : E} : Ev1 (evI C cm (.seq e) r) st L ↔ Ev1 (evB C e r).1 st (fun x s => ∃ xs, seqI cm x = some xs ∧ L xs s) := by
  show Ev1 (bnd ((evB C e r).1) fun x => opt (seqI cm x)) st L ↔ _
  simp only [ev_bnd, ev_opt]
theorem s_own {i : Nat} {f : Fr} : Ev1 (evS C (.ownA i f) r) st S1 ↔ Ev1 (evF C f r) st (fun o s => ∃ sl, slOf o = some sl ∧ S1 (.nx (r.set i sl)) s) := by
  show Ev1 (bnd (evF C f r) fun o => opt ((slOf o).map fun sl => .nx (r.set i sl))) st S1 ↔ _
  simp only [ev_bnd, ev_opt, Option.map_eq_some_iff]
  constructor
  · exact fun h => ev_mono h fun x s ⟨z, ⟨b, e, e2⟩, p⟩ => ⟨b, e, by subst e2; exact p⟩
  · exact fun h => ev_mono h fun x s ⟨b, e, p⟩ => ⟨_, ⟨b, e, rfl⟩, p⟩
theorem s_ins {k : Nat} {i e : E} : Ev1 (evS C (.ins k i e) r) st S1 ↔ ∃ u, ownL r[k]? = some u ∧ Ev1 (evB C i r).1 st (fun y s => Ev1 (evB C e r).1 s (fun x s => ∃ z, insM k r y x = some z ∧ S1 z s)) := by
  show Ev1 (bnd (opt (ownL r[k]?)) fun _ => bnd ((evB C i r).1) fun y => bnd ((evB C e r).1) fun x => opt (insM k r y x)) st S1 ↔ _
  simp only [ev_bnd, ev_opt]
end
end LG

set_option Elab.async false
set_option linter.all false
set_option maxRecDepth 100000
set_option maxHeartbeats 4000000
/-! P1: more rows; operations on known values. -/
namespace LG
open PySem L2
section
variable {α β : Type}
theorem x_if {c : Prop} [Decidable c] {a : α} {P : α → Prop} : (∃ z, (if c then some a else none) = some z ∧ P z) ↔ c ∧ P a := by
  by_cases h : c
  · simp [h]
  · simp [h]
theorem xb_if {c : Prop} [Decidable c] {o : Option α} {P : α → Prop} : (∃ z, (if c then o else none) = some z ∧ P z) ↔ c ∧ ∃ z, o = some z ∧ P z := by
  by_cases h : c
  · simp [h]
  · simp [h]
theorem x_map {f : β → α} {o : Option β} {P : α → Prop} : (∃ z, Option.map f o = some z ∧ P z) ↔ ∃ y, o = some y ∧ P (f y) := by
  cases o with
  | none => simp
  | some y => simp
theorem x_none {P : α → Prop} : (∃ z, (none : Option α) = some z ∧ P z) ↔ False := by simp
theorem x_some {a : α} {P : α → Prop} : (∃ z, some a = some z ∧ P z) ↔ P a := by simp
end
section
variable {C : Ca} {r : Ev} {st : Sto} {P : Vl → Sto → Prop} {B : Bool → Sto → Prop} {S1 : Res → Sto → Prop} {L : List Vl → Sto → Prop} {O1 : Option Int → Sto → Prop} {F1 : Ob → Sto → Prop} {X1 : Sl → Sto → Prop}
theorem s_ct {f : Ev → M Res} : Ev1 (seqR (.ct r) f) st S1 ↔ S1 (.ct r) st := ev_ret
theorem s_bk {f : Ev → M Res} : Ev1 (seqR (.bk r) f) st S1 ↔ S1 (.bk r) st := ev_ret
theorem t_var {i : Nat} : Ev1 (evB C (.var i) r).2 st B ↔ Ev1 (evB C (.var i) r).1 st (fun x s => ∃ b, truM s x = some b ∧ B b s) := t_tru
theorem t_idx {a b : E} : Ev1 (evB C (.idx a b) r).2 st B ↔ Ev1 (evB C (.idx a b) r).1 st (fun x s => ∃ b, truM s x = some b ∧ B b s) := t_tru
theorem t_cal {f : Str} {es : Es} : Ev1 (evB C (.cal f es) r).2 st B ↔ Ev1 (evB C (.cal f es) r).1 st (fun x s => ∃ b, truM s x = some b ∧ B b s) := t_tru
theorem t_blt {f : Bf} {es : Es} : Ev1 (evB C (.blt f es) r).2 st B ↔ Ev1 (evB C (.blt f es) r).1 st (fun x s => ∃ b, truM s x = some b ∧ B b s) := t_tru
theorem t_isi {a : E} {cs : List Cn} : Ev1 (evB C (.isi a cs) r).2 st B ↔ Ev1 (evB C (.isi a cs) r).1 st (fun x s => ∃ b, truM s x = some b ∧ B b s) := t_tru
theorem t_bl {b : Bool} : Ev1 (evB C (.bl b) r).2 st B ↔ B b st := by
  rw [show Ev1 (evB C (.bl b) r).2 st B ↔ _ from t_tru (m := ret (.bl b)), ev_ret]
  simp [truM]
theorem t_fr {f : Fr} : Ev1 (evB C (.fr f) r).2 st B ↔ Ev1 (evB C (.fr f) r).1 st (fun x s => ∃ b, truM s x = some b ∧ B b s) := t_tru
theorem e_atr {a : E} {f : Str} : Ev1 (evB C (.atr a f) r).1 st P ↔ Ev1 (evB C a r).1 st (fun x s => ∃ z, atrM C.cls s x f = some z ∧ P z s) := by
  show Ev1 (bnd ((evB C a r).1) fun x => look fun st => atrM C.cls st x f) st P ↔ _
  simp only [ev_bnd, ev_look]
theorem e_mkx {n : Str} {a : E} : Ev1 (evB C (.mkx n a) r).1 st P ↔ C.err n = true ∧ Ev1 (evB C a r).1 st (fun x s => ∃ z, mkX n s x = some z ∧ P z s) := by
  show Ev1 (if C.err n then bnd ((evB C a r).1) fun x => look fun st => mkX n st x else bad) st P ↔ _
  by_cases h : C.err n = true
  · simp only [h, if_true, ev_bnd, ev_look, true_and]
  · simp only [h, if_false, Bool.false_eq_true, ev_bad, false_and]
theorem e_mkk {n : Str} {a : E} : Ev1 (evB C (.mkk n a) r).1 st P ↔ C.err n = true ∧ Ev1 (evB C a r).1 st (fun x s => ∃ z, mkX n s x = some z ∧ P z s) := e_mkx
theorem t_txt {f : Tf} {a : E} {es : Es} : Ev1 (evB C (.txt f a es) r).2 st B ↔ Ev1 (evB C (.txt f a es) r).1 st (fun x s => ∃ b, truM s x = some b ∧ B b s) := t_tru
theorem t_ite {c a b : E} : Ev1 (evB C (.ite c a b) r).2 st B ↔ Ev1 (evB C c r).2 st (fun k s => if k = true then Ev1 (evB C a r).2 s B else Ev1 (evB C b r).2 s B) := by
  show Ev1 (bnd ((evB C c r).2) fun k => if k then (evB C a r).2 else (evB C b r).2) st B ↔ _
  simp only [ev_bnd, ev_ite]
theorem e_or {a b : E} : Ev1 (evB C (.or a b) r).1 st P ↔ Ev1 (evB C a r).1 st (fun x s => ∃ k, x = .bl k ∧ if k = true then P (.bl true) s else Ev1 (evB C b r).1 s P) := by
  show Ev1 (bnd (evB C a r).1 fun x => match x with
    | .bl true => LG.ret (.bl true)
    | .bl false => (evB C b r).1
    | _ => bad) st P ↔ _
  rw [ev_bnd]
  constructor
  · exact fun h => ev_mono h fun x s p => by
      split at p
      · exact ⟨true, rfl, ev_ret.mp p⟩
      · exact ⟨false, rfl, p⟩
      · exact (ev_bad.mp p).elim
  · exact fun h => ev_mono h fun x s ⟨k, e, p⟩ => by
      subst e
      cases k with
      | true => exact ev_ret.mpr p
      | false => exact p
def intOf : Vl → Option Int
  | .int i => some i
  | _ => none
theorem e_neg {a : E} : Ev1 (evB C (.neg a) r).1 st P ↔ Ev1 (evB C a r).1 st (fun x s => ∃ i, intOf x = some i ∧ P (.int (-i)) s) := by
  show Ev1 (bnd ((evB C a r).1) fun x => opt (match x with | .int i => some (.int (-i)) | _ => none)) st P ↔ _
  simp only [ev_bnd, ev_opt]
  constructor
  · exact fun h => ev_mono h fun x s ⟨o, e, p⟩ => by
      cases x with
      | int i => cases e; exact ⟨i, rfl, p⟩
      | _ => cases e
  · exact fun h => ev_mono h fun x s ⟨i, e, p⟩ => by
      cases x with
      | int j => cases e; exact ⟨_, rfl, p⟩
      | _ => cases e
theorem e_chn {o o' : Cop} {a b c : E} : Ev1 (evB C (.chn o o' a b c) r).1 st P ↔ Ev1 (evB C (.chn o o' a b c) r).2 st (fun b s => P (.bl b) s) := by
  show Ev1 (bnd (evB C (.chn o o' a b c) r).2 fun b => LG.ret (.bl b)) st P ↔ _
  simp only [ev_bnd, ev_ret]
theorem v_e {e : E} : Ev1 (evV C (.e e) r) st X1 ↔ Ev1 (evB C e r).1 st (fun x s => notBor x = true ∧ X1 (.v x) s) := by
  show Ev1 (bnd ((evB C e r).1) fun x => if notBor x then ret (.v x) else bad) st X1 ↔ _
  simp only [ev_bnd]
  constructor
  · exact fun h => ev_mono h fun x s p => by
      by_cases hb : notBor x = true
      · rw [if_pos hb] at p; exact ⟨hb, ev_ret.mp p⟩
      · rw [if_neg hb] at p; exact (ev_bad.mp p).elim
  · exact fun h => ev_mono h fun x s ⟨hb, p⟩ => by rw [if_pos hb]; exact ev_ret.mpr p
theorem v_o {f : Fr} : Ev1 (evV C (.o f) r) st X1 ↔ Ev1 (evF C f r) st (fun o s => ∃ sl, slOf o = some sl ∧ X1 sl s) := by
  show Ev1 (bnd (evF C f r) fun o => opt (slOf o)) st X1 ↔ _
  simp only [ev_bnd, ev_opt]
theorem i_rng1 {cm : Bool} {a : E} : Ev1 (evI C cm (.rng1 a) r) st L ↔ Ev1 (evB C a r).1 st (fun x s => ∃ j, intOf x = some j ∧ (-(2 ^ 62) ≤ j ∧ j < 2 ^ 62) ∧ L ((List.range j.toNat).map fun i => .int (0 + (i : Nat))) s) := by
  show Ev1 (bnd ((evB C a r).1) fun x => opt (match x with
    | .int j => if -(2 ^ 62) ≤ j ∧ j < 2 ^ 62 then some ((List.range j.toNat).map fun i => .int (0 + (i : Nat))) else none
    | _ => none)) st L ↔ _
  simp only [ev_bnd, ev_opt]
  constructor
  · exact fun h => ev_mono h fun x s ⟨o, e, p⟩ => by
      cases x with
      | int j =>
        by_cases hb : -(2 ^ 62) ≤ j ∧ j < 2 ^ 62
        · simp only [if_pos hb] at e; cases e; exact ⟨j, rfl, hb, p⟩
        · simp only [if_neg hb] at e; cases e
      | _ => cases e
  · exact fun h => ev_mono h fun x s ⟨i, e, hb, p⟩ => by
      cases x with
      | int j => cases e; exact ⟨_, if_pos hb, p⟩
      | _ => cases e
theorem i_rng2 {cm : Bool} {a b : E} : Ev1 (evI C cm (.rng2 a b) r) st L ↔ Ev1 (evB C a r).1 st (fun x s => Ev1 (evB C b r).1 s (fun y s => ∃ i, intOf x = some i ∧ ∃ j, intOf y = some j ∧ ((-(2 ^ 62) ≤ i ∧ i < 2 ^ 62) ∧ -(2 ^ 62) ≤ j ∧ j < 2 ^ 62) ∧ L ((List.range (j - i).toNat).map fun k => .int (i + (k : Nat))) s)) := by
  show Ev1 (bnd ((evB C a r).1) fun x => bnd ((evB C b r).1) fun y => opt (match x, y with
    | .int i, .int j => if (-(2 ^ 62) ≤ i ∧ i < 2 ^ 62) ∧ -(2 ^ 62) ≤ j ∧ j < 2 ^ 62 then some ((List.range (j - i).toNat).map fun k => .int (i + (k : Nat))) else none
    | _, _ => none)) st L ↔ _
  simp only [ev_bnd]
  constructor
  · exact fun h => ev_mono h fun x s h => ev_mono h fun y s p => by
      obtain ⟨o, e, p⟩ := ev_opt.mp p
      split at e
      · rename_i i j
        by_cases hb : (-(2 ^ 62) ≤ i ∧ i < 2 ^ 62) ∧ -(2 ^ 62) ≤ j ∧ j < 2 ^ 62
        · simp only [if_pos hb] at e; cases e; exact ⟨i, rfl, j, rfl, hb, p⟩
        · simp only [if_neg hb] at e; cases e
      · cases e
  · exact fun h => ev_mono h fun x s h => ev_mono h fun y s ⟨i, e, j, e', hb, p⟩ => by
      refine ev_opt.mpr ?_
      cases x with
      | int i' => cases y with
        | int j' => cases e; cases e'; exact ⟨_, if_pos hb, p⟩
        | _ => cases e'
      | _ => cases e
theorem s_app {k : Nat} {e : E} : Ev1 (evS C (.app k e) r) st S1 ↔ ∃ u, ownL r[k]? = some u ∧ Ev1 (evB C e r).1 st (fun x s => ∃ z, appM k r x = some z ∧ S1 z s) := by
  show Ev1 (bnd (opt (ownL r[k]?)) fun _ => bnd ((evB C e r).1) fun x => opt (appM k r x)) st S1 ↔ _
  simp only [ev_bnd, ev_opt]
theorem s_setS {k : Nat} {i v : E} : Ev1 (evS C (.setS k i v) r) st S1 ↔ ∃ u, ownG r[k]? = some u ∧ Ev1 (evB C v r).1 st (fun z s => Ev1 (evB C i r).1 s (fun y s => ∃ w, setSM k r z y = some w ∧ S1 w s)) := by
  show Ev1 (bnd (opt (ownG r[k]?)) fun _ => bnd ((evB C v r).1) fun z => bnd ((evB C i r).1) fun y => opt (setSM k r z y)) st S1 ↔ _
  simp only [ev_bnd, ev_opt]
theorem s_exp {e : E} : Ev1 (evS C (.exp e) r) st S1 ↔ Ev1 (evB C e r).1 st (fun _ s => S1 (.nx r) s) := by
  show Ev1 (bnd ((evB C e r).1) fun _ => ret (.nx r)) st S1 ↔ _
  simp only [ev_bnd, ev_ret]
theorem s_frz {i : Nat} : Ev1 (evS C (.frz i) r) st S1 ↔ ∃ z, frzM i r = some z ∧ S1 z st := ev_opt
theorem s_pass : Ev1 (evS C .pass r) st S1 ↔ S1 (.nx r) st := ev_ret
theorem s_retO {k : Nat} : Ev1 (evS C (.retO k) r) st S1 ↔ Ev1 (rtO r[k]?) st S1 := Iff.rfl
theorem s_whl {c : E} {b : Ss} : Ev1 (evS C (.whl c b) r) st S1 ↔ Ev1 (whlN (evT C c) (evSs C b) C.fuel r) st S1 := Iff.rfl
theorem c_non : Ev1 (evC C .non r) st B ↔ B true st := ev_ret
theorem c_som {e : E} : Ev1 (evC C (.som e) r) st B ↔ Ev1 (evB C e r).2 st B := Iff.rfl
def compF (C : Ca) (vs : List Nat) (elt : E) (t : T) (cs : Eo) (r : Ev) (x : Vl) : M (Option Vl) := bnd (opt (bindT t x (wipeE r vs))) fun r' =>
      bnd (evC C cs r') fun b => if b then bnd ((evB C elt r').1) fun y => if notBor y then ret (some y) else bad else ret none
theorem f_comp {own : List (Str × Nat)} {elt : E} {t : T} {it : It} {cs : Eo} : Ev1 (evF C (.comp own elt t it cs) r) st F1 ↔ Ev1 (evI C true it r) st (fun xs s => xs.length ≤ sizeLine ∧ Ev1 (compL (compF C (own.map (·.2)) elt t cs r) xs) s (fun ys s => F1 (.lst ys) s)) := by
  show Ev1 (bnd (evI C true it r) fun xs => if xs.length ≤ sizeLine then bnd (compL (compF C (own.map (·.2)) elt t cs r) xs) fun ys => ret (.lst ys) else bad) st F1 ↔ _
  rw [ev_bnd]
  constructor
  · exact fun h => ev_mono h fun x s p => by
      by_cases hb : x.length ≤ sizeLine
      · rw [if_pos hb, ev_bnd] at p; exact ⟨hb, ev_mono p fun _ _ q => ev_ret.mp q⟩
      · rw [if_neg hb] at p; exact (ev_bad.mp p).elim
  · exact fun h => ev_mono h fun x s ⟨hb, p⟩ => by rw [if_pos hb, ev_bnd]; exact ev_mono p fun _ _ q => ev_ret.mpr q
theorem ev_compF {vs : List Nat} {elt : E} {i : Nat} {cs : Eo} {x : Vl} {Q : Option Vl → Sto → Prop} : Ev1 (compF C vs elt (.nm i) cs r x) st Q ↔ notBor x = true ∧ Ev1 (evC C cs ((wipeE r vs).set i (.v x))) st (fun b s => if b = true then Ev1 (evB C elt ((wipeE r vs).set i (.v x))).1 s (fun y s => notBor y = true ∧ Q (some y) s) else Q none s) := by
  unfold compF
  simp only [ev_bnd, ev_opt, bindT, x_if, ev_ite, ev_ret]
  refine and_congr_right fun _ => ⟨fun h => ev_mono h fun b s p => ?_, fun h => ev_mono h fun b s p => ?_⟩
  · by_cases hb : b = true
    · rw [if_pos hb] at p ⊢
      exact ev_mono p fun y s q => by
        by_cases hn : notBor y = true
        · rw [if_pos hn] at q; exact ⟨hn, q⟩
        · rw [if_neg hn] at q; exact (ev_bad.mp q).elim
    · rw [if_neg hb] at p ⊢; exact p
  · by_cases hb : b = true
    · rw [if_pos hb] at p ⊢
      exact ev_mono p fun y s q => by rw [if_pos q.1]; exact q.2
    · rw [if_neg hb] at p ⊢; exact p
def forB (C : Ca) (t : T) (b : Ss) (x : Vl) (r : Ev) : M Res := bnd (opt (bindT t x r)) fun r' => evSs C b r'
theorem s_for {t : T} {it : It} {b : Ss} : Ev1 (evS C (.forr t it b) r) st S1 ↔ Ev1 (evI C false it r) st (fun xs s => Ev1 (forL (forB C t b) xs r) s S1) := s_forr
theorem ev_forB {i : Nat} {b : Ss} {x : Vl} : Ev1 (forB C (.nm i) b x r) st S1 ↔ notBor x = true ∧ Ev1 (evSs C b (r.set i (.v x))) st S1 := by
  unfold forB
  simp only [ev_bnd, ev_opt, bindT, x_if]
theorem f_slc {a : E} {lo hi : Eo} : Ev1 (evF C (.slc a lo hi) r) st F1 ↔ Ev1 (evB C a r).1 st (fun x s => Ev1 (evO C lo r) s (fun l s => Ev1 (evO C hi r) s (fun h s => ∃ xs, asList s x = some xs ∧ F1 (.lst (cutL xs l h)) s))) := by
  show Ev1 (bnd ((evB C a r).1) fun x => bnd (evO C lo r) fun l => bnd (evO C hi r) fun h => look fun st => (asList st x).map fun xs => .lst (cutL xs l h)) st F1 ↔ _
  simp only [ev_bnd, ev_look, x_map]
theorem f_bin {o : Bop} {a b : E} : Ev1 (evF C (.bin o a b) r) st F1 ↔ Ev1 (evB C a r).1 st (fun x s => Ev1 (evB C b r).1 s (fun y s => ∃ z, binF o s x y = some z ∧ F1 z s)) := by
  show Ev1 (bnd ((evB C a r).1) fun x => bnd ((evB C b r).1) fun y => look fun st => binF o st x y) st F1 ↔ _
  simp only [ev_bnd, ev_look]
def dispO (ks : List Str) (xs : List Vl) : Option (List (Key × Vl)) := (dispL ks xs).bind fun kvs => if kvs.length ≤ 15 ∧ xs.all notBor then some (putAll [] kvs) else none
theorem f_disp {ks : List Str} {es : Es} : Ev1 (evF C (.disp ks es) r) st F1 ↔ Ev1 (evEs C es r) st (fun xs s => ∃ d, dispO ks xs = some d ∧ F1 (.dk d) s) := by
  show Ev1 (bnd (evEs C es r) fun xs => opt ((dispL ks xs).bind fun kvs => if kvs.length ≤ 15 ∧ xs.all notBor then some (.dk (putAll [] kvs)) else none)) st F1 ↔ _
  have e : ∀ xs, ((dispL ks xs).bind fun kvs => if kvs.length ≤ 15 ∧ xs.all notBor then some (Ob.dk (putAll [] kvs)) else none) = (dispO ks xs).map .dk := fun xs => by
    unfold dispO
    cases dispL ks xs with
    | none => rfl
    | some kvs =>
      simp only [Option.bind_some]
      split <;> rfl
  simp only [ev_bnd, ev_opt, e, x_map]
theorem f_dnewK : Ev1 (evF C .dnewK r) st F1 ↔ F1 (.dk []) st := ev_ret
end
theorem endV_vl {x : Vl} : endV (.vl x) = okV x := rfl
theorem endV_fr {o : Ob} : endV (.fr o) = frozen o := rfl
theorem endF_fr {o : Ob} : endF (.fr o) = ret o := rfl
theorem ev_okV {x : Vl} {st : Sto} {P : Vl → Sto → Prop} : Ev1 (okV x) st P ↔ notBor x = true ∧ P x st := by
  unfold okV
  by_cases h : notBor x = true
  · rw [if_pos h, ev_ret]; exact ⟨fun p => ⟨h, p⟩, fun p => p.2⟩
  · rw [if_neg h]; exact ⟨fun p => (ev_bad.mp p).elim, fun p => (h p.1).elim⟩
theorem ev_frozen {o : Ob} {st : Sto} {P : Vl → Sto → Prop} : Ev1 (frozen o) st P ↔ ∃ z, o.toVl = some z ∧ P z st := ev_opt
theorem rtE_nx {r : Ev} : rtE (.nx r) = ret (.vl .non) := rfl
theorem rtE_rt {x : Rt} : rtE (.rt x) = ret x := rfl
theorem slOf_l {xs : List Vl} : slOf (.lst xs) = some (.l xs) := rfl
theorem slOf_d {xs : List (Key × Vl)} : slOf (.dk xs) = some (.d xs) := rfl
theorem ownL_l {xs : List Vl} : ownL (some (.l xs)) = some () := rfl
theorem ownG_l {xs : List Vl} : ownG (some (.l xs)) = some () := rfl
theorem ownG_d {xs : List (Key × Vl)} : ownG (some (.d xs)) = some () := rfl
theorem rtO_l {xs : List Vl} : rtO (some (.l xs)) = ret (.rt (.fr (.lst xs))) := rfl
theorem rtO_d {xs : List (Key × Vl)} : rtO (some (.d xs)) = ret (.rt (.fr (.dk xs))) := rfl
theorem seqI_l {cm : Bool} {xs : List Vl} : seqI cm (.lst xs) = some xs := rfl
theorem seqI_t {cm : Bool} {xs : List Vl} : seqI cm (.tup xs) = some xs := rfl
theorem seqI_b {xs : List Vl} : seqI true (.bor xs) = some xs := rfl
theorem seqI_s {cm : Bool} {z : Str} : seqI cm (.str z) = some (z.cps.toList.map fun c => .str ⟨#[c]⟩) := rfl
theorem intOf_i {i : Int} : intOf (.int i) = some i := rfl
theorem strOf_s {z : Str} : strOf (.str z) = some z := rfl
theorem toVl_l {xs : List Vl} : (Ob.lst xs).toVl = some (.lst xs) := rfl
theorem toVl_d {xs : List (Key × Vl)} : (Ob.dk xs).toVl = some (.dk xs) := rfl
/-! ### pure -/
def Pu {α : Type} (m : M α) (st : Sto) (a : α) : Prop := m st = .ok a st
theorem ev_pu {α : Type} {m : M α} {st : Sto} {a : α} {P : α → Sto → Prop} (h : Pu m st a) : Ev1 m st P ↔ P a st := by
  constructor
  · rintro ⟨b, s, e, p⟩
    unfold Pu at h
    rw [h] at e; cases e; exact p
  · exact fun p => ⟨a, st, h, p⟩
theorem pu_ev {α : Type} {m : M α} {st : Sto} {a : α} (h : Ev1 m st (fun b s => b = a ∧ s = st)) : Pu m st a := by
  obtain ⟨b, s, e, rfl, rfl⟩ := h; exact e
theorem comp_pu {f : Vl → M (Option Vl)} {st : Sto} {g : Vl → Option Vl} : ∀ {xs : List Vl}, (∀ x ∈ xs, Pu (f x) st (g x)) → Pu (compL f xs) st (xs.filterMap g)
  | [], _ => rfl
  | x :: xs, h => by
    have h1 := h x (List.mem_cons_self ..)
    have h2 := comp_pu (f := f) (st := st) (g := g) (xs := xs) fun y hy => h y (List.mem_cons_of_mem _ hy)
    refine pu_ev ?_
    show Ev1 (bnd (noX (f x)) fun o => bnd (compL f xs) fun r => LG.ret (match o with | some y => y :: r | none => r)) st _
    rw [ev_bnd, ev_noX, ev_pu h1, ev_bnd, ev_pu h2, ev_ret]
    cases e : g x with
    | none => simp [List.filterMap_cons, e]
    | some y => simp [List.filterMap_cons, e]
def st1 : List Str → List Vl → Ev
  | [], _ => []
  | _ :: ns, x :: xs => .v x :: st1 ns xs
  | _ :: ns, [] => .e :: st1 ns []
theorem st1_n {xs : List Vl} : st1 [] xs = [] := rfl
theorem st1_x {n : Str} {ns : List Str} {x : Vl} {xs : List Vl} : st1 (n :: ns) (x :: xs) = .v x :: st1 ns xs := rfl
theorem st1_e {n : Str} {ns : List Str} : st1 (n :: ns) [] = .e :: st1 ns [] := rfl
theorem st1_0 : ∀ {ns : List Str}, st1 ns [] = List.replicate ns.length .e
  | [] => rfl
  | _ :: ns => by rw [st1_e, st1_0]; rfl
theorem st1_eq : ∀ {ns : List Str} {xs : List Vl}, xs.length ≤ ns.length → start0 ns.length xs = st1 ns xs
  | ns, [], _ => by rw [st1_0]; rfl
  | [], _ :: _, h => by simp at h
  | n :: ns, x :: xs, h => by
    have := st1_eq (ns := ns) (xs := xs) (by simpa using h)
    rw [st1_x, ← this]
    simp [start0]
theorem call_eq {tb : Tb} {cls : List Str} {fu d : Nat} {f : Str} {fn : Fn} {xs : List Vl} (h : tb.lookup f = some fn) (hl : xs.length = fn.np) (hn : xs.length ≤ fn.ns.length) : callD tb cls fu (d + 1) f xs = bnd (evSs (CaD tb cls fu d) fn.body (st1 fn.ns xs)) rtE := by
  rw [← st1_eq hn]
  show (match tb.lookup f with
    | none => bad
    | some fn => if xs.length = fn.np then bnd (evSs ⟨callD tb cls fu d, fu, cls, fun f => (tb.lookup f).isSome, fun n => decide (2 ≤ d) && (decide (n ∈ cls) && decide (n ∈ errN))⟩ fn.body (start0 fn.ns.length xs)) rtE else bad) = _
  rw [h]
  simp only [if_pos hl]
/-! ### operations on known values -/
section
variable {st : Sto} {i j : Int} {a b : Str} {x y : List Vl}
theorem b_addI : binM .add st (.int i) (.int j) = some (.int (i + j)) := rfl
theorem b_subI : binM .sub st (.int i) (.int j) = some (.int (i - j)) := rfl
theorem b_mulI : binM .mul st (.int i) (.int j) = if (-(2 ^ 64) < i ∧ i < 2 ^ 64) ∨ (-(2 ^ 64) < j ∧ j < 2 ^ 64) then some (.int (i * j)) else none := rfl
theorem b_modI : binM .mod st (.int i) (.int j) = if 0 < j then some (.int (i % j)) else none := rfl
theorem b_fdivI : binM .fdiv st (.int i) (.int j) = if 0 < j ∧ j < 1073741824 then some (.int (i / j)) else none := rfl
theorem b_pow1018 : binM .pow st (.int 10) (.int 18) = some (.int 1000000000000000000) := rfl
theorem b_addS : binM .add st (.str a) (.str b) = if a.length + b.length ≤ sizeLine then some (.str (a ++ b)) else none := rfl
theorem b_addT : binM .add st (.tup x) (.tup y) = if x.length + y.length ≤ sizeLine then some (.tup (x ++ y)) else none := rfl
theorem b_addLL : binM .add st (.lst x) (.lst y) = if x.length + y.length ≤ sizeLine then some (.lst (x ++ y)) else none := rfl
theorem b_mulS : binM .mul st (.str a) (.int j) = if -(2 ^ 63) ≤ j ∧ j ≤ 4096 ∧ a.length ≤ 4096 then some (.str (Txt.mul a j)) else none := rfl
theorem b_mulT : binM .mul st (.tup x) (.int j) = if -(2 ^ 63) ≤ j ∧ j ≤ 1000 ∧ x.length ≤ 1000 then some (.tup (List.replicate j.toNat x).flatten) else none := rfl
theorem b_mulL : binM .mul st (.lst x) (.int j) = if -(2 ^ 63) ≤ j ∧ j < 2 ^ 63 ∧ x.length * j.toNat ≤ sizeLine then some (.lst (List.replicate j.toNat x).flatten) else none := rfl
theorem cA {o : Cop} {x y : Vl} {k : Bool} (h : cmpM o st x y = some k) : cmpA o st x y = some k := by unfold cmpA; rw [h]
theorem c_ltI : cmpA .lt st (.int i) (.int j) = some (decide (i < j)) := rfl
theorem c_leI : cmpA .le st (.int i) (.int j) = some (decide (i ≤ j)) := rfl
theorem c_gtI : cmpA .gt st (.int i) (.int j) = some (decide (j < i)) := rfl
theorem c_geI : cmpA .ge st (.int i) (.int j) = some (decide (j ≤ i)) := rfl
theorem c_ltS : cmpA .lt st (.str a) (.str b) = some (decide (a.cps.toList < b.cps.toList)) := rfl
theorem c_leS : cmpA .le st (.str a) (.str b) = some (!decide (b.cps.toList < a.cps.toList)) := rfl
theorem c_gtS : cmpA .gt st (.str a) (.str b) = some (decide (b.cps.toList < a.cps.toList)) := rfl
theorem c_geS : cmpA .ge st (.str a) (.str b) = some (!decide (a.cps.toList < b.cps.toList)) := rfl
theorem q_I : eqM st (.int i) (.int j) = some (decide (i = j)) := by
  show (if shp (.int i) && shp (.int j) then some (PyData.eqv (.int i) (.int j)) else none) = _
  rw [if_pos (by rfl)]
  show some (i == j) = _
  rfl
theorem c_eqI : cmpA .eq st (.int i) (.int j) = some (decide (i = j)) := cA (o := .eq) (q_I (st := st))
theorem c_neI : cmpA .ne st (.int i) (.int j) = some (!decide (i = j)) := cA (by show (eqM st (.int i) (.int j)).map not = _; rw [q_I (st := st)]; rfl)
theorem tr_bl {b : Bool} : truM st (.bl b) = some b := rfl
theorem tr_int : truM st (.int i) = some (i != 0) := rfl
theorem tr_non : truM st .non = some false := rfl
theorem l_abs : bltM .abs st [.int i] = some (.int (if i < 0 then -i else i)) := rfl
theorem l_int : bltM .int st [.int i] = some (.int i) := rfl
theorem l_intb {b : Bool} : bltM .int st [.bl b] = some (.int (if b then 1 else 0)) := rfl
theorem notBorI : notBor (.int i) = true := rfl
theorem notBorS : notBor (.str a) = true := rfl
theorem notBorB {b : Bool} : notBor (.bl b) = true := rfl
theorem notBorT : notBor (.tup x) = true := rfl
theorem notBorL : notBor (.lst x) = true := rfl
theorem notBorO {n : Nat} : notBor (.obj n) = true := rfl
theorem notBorN : notBor .non = true := rfl
theorem notBorE {n : Str} {x : Vl} : notBor (.err n x) = true := rfl
theorem notBorD {d : List (Key × Vl)} : notBor (.dk d) = true := rfl
end
end LG

set_option Elab.async false
set_option linter.all false
set_option maxRecDepth 100000
set_option maxHeartbeats 4000000
/-! P2: plain data, its depth and weight; repr's room. -/
namespace LG
open PySem L2 PyProof.Rows
open PySem.PyData (strOk)
def ascL (l : List Nat) : Bool := l.all (· < 128)
def asc (s : Str) : Bool := ascL s.cps.toList
mutual
def pl : Vl → Bool
  | .non => true
  | .bl _ => true
  | .int i => decide (i.natAbs < 1000000)
  | .str s => asc s
  | .tup xs => pls xs
  | .lst xs => pls xs
  | .dk kvs => kvs.isEmpty
  | _ => false
def pls : List Vl → Bool
  | [] => true
  | x :: xs => pl x && pls xs
end
mutual
def dp : Vl → Nat
  | .tup xs => dps xs + 1
  | .lst xs => dps xs + 1
  | .dk _ => 1
  | _ => 0
def dps : List Vl → Nat
  | [] => 0
  | x :: xs => max (dp x) (dps xs)
end
mutual
def wt : Vl → Nat
  | .str s => s.length + 1
  | .tup xs => wts xs + 1
  | .lst xs => wts xs + 1
  | _ => 1
def wts : List Vl → Nat
  | [] => 0
  | x :: xs => wt x + wts xs
end
theorem pls_iff : ∀ xs : List Vl, pls xs = true ↔ ∀ x ∈ xs, pl x = true
  | [] => by simp [pls]
  | x :: xs => by simp [pls, pls_iff xs]
theorem dps_le {d : Nat} : ∀ xs : List Vl, dps xs ≤ d ↔ ∀ x ∈ xs, dp x ≤ d
  | [] => by simp [dps]
  | x :: xs => by simp [dps, Nat.max_le, dps_le xs]
theorem wts_append : ∀ xs ys : List Vl, wts (xs ++ ys) = wts xs + wts ys
  | [], ys => by simp [wts]
  | x :: xs, ys => by simp [wts, wts_append xs ys, Nat.add_assoc]
theorem wts_td (xs : List Vl) (n : Nat) : wts (xs.take n) + wts (xs.drop n) = wts xs := by rw [← wts_append, List.take_append_drop]
theorem wts_rev : ∀ xs : List Vl, wts xs.reverse = wts xs
  | [] => rfl
  | x :: xs => by simp [wts_append, wts_rev xs, wts]; omega
theorem wts_mem : ∀ {xs : List Vl} {x : Vl}, x ∈ xs → wt x ≤ wts xs
  | y :: xs, x, h => by
    rcases List.mem_cons.mp h with rfl | h
    · simp [wts]
    · have := wts_mem h
      simp [wts]; omega
theorem wt_pos (x : Vl) : 1 ≤ wt x := by cases x <;> simp [wt]
theorem wts_len : ∀ xs : List Vl, xs.length ≤ wts xs
  | [] => by simp
  | x :: xs => by
    have h := wt_pos x
    have := wts_len xs
    simp [wts]; omega
theorem asc_ok {s : Str} (h : asc s = true) : ∀ c ∈ s.cps.toList, c < 128 := fun c hc => of_decide_eq_true (List.all_eq_true.mp h c hc)
theorem asc_strOk {s : Str} (h : asc s = true) : strOk s = true := by
  have := asc_ok h
  unfold strOk
  rw [Array.all_eq_true']
  intro c hc
  have := this c (by simpa using hc)
  simp; omega
mutual
theorem pl_rep : ∀ x : Vl, pl x = true → ∃ d, toPyD x = some d ∧ d.showable = true ∧ d.depth ≤ dp x ∧ d.shown.length + 2 ≤ 16 * wt x
  | .non, _ => ⟨_, rfl, rfl, Nat.le_refl _, by decide +kernel⟩
  | .bl b, _ => ⟨_, rfl, rfl, Nat.le_refl _, by cases b <;> decide +kernel⟩
  | .int i, h => by
    have h : i.natAbs < 10 ^ 6 := by simpa [pl] using h
    refine ⟨_, rfl, ?_, Nat.le_refl _, ?_⟩
    · show decide (i.natAbs.log2 < 1920) = true
      refine decide_eq_true ?_
      have : i.natAbs.log2 ≤ i.natAbs := Nat.log2_le_self _
      by_cases h0 : i.natAbs = 0
      · rw [h0]; decide
      · exact Nat.lt_of_lt_of_le ((Nat.log2_lt h0).mpr (Nat.lt_of_lt_of_le h (by decide : 10 ^ 6 ≤ 2 ^ 20))) (by decide)
    · have e := int_text_length_le10 (a := i) (k := 6) (by decide) h
      show (Str.ofString (toString i)).length + 2 ≤ 16 * 1
      have : (Str.ofString (toString i)).length = (toString i).length := PySem.ofString_length _
      omega
  | .str s, h => by
    refine ⟨_, rfl, rfl, Nat.le_refl _, ?_⟩
    have := StrLaws.reprText_len s fun c hc => Nat.lt_trans (asc_ok h c hc) (by decide)
    show (reprText s).length + 2 ≤ 16 * (s.length + 1)
    omega
  | .tup xs, h => by
    obtain ⟨ds, e, h1, h2, h3⟩ := pls_rep xs h
    refine ⟨.tuple ds, by show (toPyDs xs).map _ = _; rw [e]; rfl, h1, ?_, ?_⟩
    · show PyData.depthAll ds + 1 ≤ dps xs + 1
      omega
    · have := tupleText_len_le (PyData.shownAll ds)
      show (tupleText (PyData.shownAll ds)).length + 2 ≤ 16 * (wts xs + 1)
      omega
  | .lst xs, h => by
    obtain ⟨ds, e, h1, h2, h3⟩ := pls_rep xs h
    refine ⟨.list ds, by show (toPyDs xs).map _ = _; rw [e]; rfl, h1, ?_, ?_⟩
    · show PyData.depthAll ds + 1 ≤ dps xs + 1
      omega
    · have := listText_len_le (PyData.shownAll ds)
      show (listText (PyData.shownAll ds)).length + 2 ≤ 16 * (wts xs + 1)
      omega
  | .dk [], _ => ⟨.dict [], rfl, rfl, by decide, by decide +kernel⟩
  | .dk (_ :: _), h => by simp [pl] at h
  | .bor _, h => by simp [pl] at h
  | .scr _, h => by simp [pl] at h
  | .dt _, h => by simp [pl] at h
  | .obj _, h => by simp [pl] at h
  | .glb _, h => by simp [pl] at h
  | .ty _, h => by simp [pl] at h
theorem pls_rep : ∀ xs : List Vl, pls xs = true → ∃ ds, toPyDs xs = some ds ∧ PyData.showableAll ds = true ∧ PyData.depthAll ds ≤ dps xs ∧ ((PyData.shownAll ds).map (·.length)).sum + 2 * (PyData.shownAll ds).length ≤ 16 * wts xs
  | [], _ => ⟨[], rfl, rfl, Nat.le_refl _, by decide⟩
  | x :: xs, h => by
    have h : pl x = true ∧ pls xs = true := by simpa [pls] using h
    obtain ⟨d, e, a1, a2, a3⟩ := pl_rep x h.1
    obtain ⟨ds, e', b1, b2, b3⟩ := pls_rep xs h.2
    refine ⟨d :: ds, by simp [toPyDs, e, e'], by simp [PyData.showableAll, a1, b1], ?_, ?_⟩
    · simp only [PyData.depthAll, dps]; omega
    · simp only [PyData.shownAll, List.map_cons, List.sum_cons, List.length_cons, wts]; omega
end
/-! what is shown is made of signs -/
def sgn (z : Str) : Prop := ∀ c ∈ z.cps.toList, c < 1114112
theorem sgn_strOk {s : Str} (h : sgn s) : strOk s = true := by
  unfold strOk
  rw [Array.all_eq_true']
  intro c hc
  have := h c (by simpa using hc)
  simpa using this
theorem sgn_of (s : String) : sgn (Str.ofString s) := by
  intro c hc
  have e : (Str.ofString s).cps.toList = s.toList.map Char.toNat := by
    show (cpsOfBytes 0 0 s.toByteArray.data.toList).toArray.toList = _
    rw [cpsOfBytes_string]
  rw [e] at hc
  obtain ⟨k, _, rfl⟩ := List.mem_map.mp hc
  have h := k.valid
  simp only [UInt32.isValidChar, Nat.isValidChar] at h
  show k.val.toNat < _
  omega
theorem sgn_app {a b : Str} (h : sgn a) (g : sgn b) : sgn (a ++ b) := by
  intro c hc
  rw [cps_toList_append] at hc
  rcases List.mem_append.mp hc with q | q
  · exact h c q
  · exact g c q
theorem sgn_join {sep : Str} {ts : List Str} (hs : sgn sep) (h : ∀ t ∈ ts, sgn t) : sgn (Str.join sep ts) := by
  intro c hc
  rcases (mem_join sep c ts).mp hc with ⟨t, ht, q⟩ | ⟨_, q⟩
  · exact h t ht c q
  · exact hs c q
theorem rc_asc : ∀ c, c < 128 → (∀ x ∈ Builtin.Str.reprChar 39 c, x < 1114112) ∧ (∀ x ∈ Builtin.Str.reprChar 34 c, x < 1114112) := by decide +kernel
theorem sgn_fold (q : Nat) (hq : q = 39 ∨ q = 34) : ∀ (l : List Nat) (acc : Array Nat), (∀ c ∈ l, c < 128) → (∀ c ∈ acc.toList, c < 1114112) → ∀ c ∈ (l.foldl (fun out c => out ++ (Builtin.Str.reprChar q c).toArray) acc).toList, c < 1114112
  | [], acc, _, ha => ha
  | c :: l, acc, hl, ha => by
    refine sgn_fold q hq l _ (fun x hx => hl x (List.mem_cons_of_mem _ hx)) fun x hx => ?_
    rw [Array.toList_append] at hx
    rcases List.mem_append.mp hx with k | k
    · exact ha x k
    · rcases hq with rfl | rfl
      · exact (rc_asc c (hl c (List.mem_cons_self ..))).1 x k
      · exact (rc_asc c (hl c (List.mem_cons_self ..))).2 x k
theorem sgn_repr {s : Str} (h : asc s = true) : sgn (reprText s) := by
  have hq : reprQuote s = 39 ∨ reprQuote s = 34 := by
    unfold reprQuote
    split
    · exact .inr rfl
    · exact .inl rfl
  intro c hc
  unfold reprText at hc
  have hc : c ∈ ((s.cps.foldl (fun out c => out ++ (Builtin.Str.reprChar (reprQuote s) c).toArray) #[reprQuote s]).push (reprQuote s)).toList := hc
  rw [Array.toList_push, ← Array.foldl_toList] at hc
  rcases List.mem_append.mp hc with k | k
  · refine sgn_fold _ hq s.cps.toList #[reprQuote s] (asc_ok h) (fun c hc => ?_) c k
    have : c = reprQuote s := by simpa using hc
    omega
  · have : c = reprQuote s := by simpa using k
    omega
mutual
theorem pl_sgn : ∀ x : Vl, pl x = true → ∀ d, toPyD x = some d → sgn d.shown
  | .non, _, d, e => by cases e; exact sgn_of _
  | .bl b, _, d, e => by
    cases e
    cases b
    · exact sgn_of _
    · exact sgn_of _
  | .int i, h, d, e => by cases e; exact sgn_of _
  | .str s, h, d, e => by cases e; exact sgn_repr h
  | .tup xs, h, d, e => by
    have e : (toPyDs xs).map PyData.tuple = some d := e
    cases q : toPyDs xs with
    | none => rw [q] at e; cases e
    | some ds =>
      rw [q] at e; cases e
      have := pls_sgn xs h ds q
      show sgn (tupleText (PyData.shownAll ds))
      unfold tupleText
      refine sgn_app (sgn_app (sgn_of _) (sgn_join (sgn_of _) this)) ?_
      split <;> exact sgn_of _
  | .lst xs, h, d, e => by
    have e : (toPyDs xs).map PyData.list = some d := e
    cases q : toPyDs xs with
    | none => rw [q] at e; cases e
    | some ds =>
      rw [q] at e; cases e
      have := pls_sgn xs h ds q
      show sgn (listText (PyData.shownAll ds))
      rw [listText_eq_join]
      exact sgn_app (sgn_app (sgn_of _) (sgn_join (sgn_of _) this)) (sgn_of _)
  | .dk [], _, d, e => by
    have e : some (PyData.dict []) = some d := e
    cases e
    exact sgn_app (sgn_app (sgn_of _) (sgn_join (sgn_of _) fun _ h => nomatch h)) (sgn_of _)
  | .dk (_ :: _), h, _, _ => by simp [pl] at h
  | .bor _, h, _, _ => by simp [pl] at h
  | .scr _, h, _, _ => by simp [pl] at h
  | .dt _, h, _, _ => by simp [pl] at h
  | .obj _, h, _, _ => by simp [pl] at h
  | .glb _, h, _, _ => by simp [pl] at h
  | .ty _, h, _, _ => by simp [pl] at h
theorem pls_sgn : ∀ xs : List Vl, pls xs = true → ∀ ds, toPyDs xs = some ds → ∀ t ∈ PyData.shownAll ds, sgn t
  | [], _, ds, e => by cases e; exact fun _ h => nomatch h
  | x :: xs, h, ds, e => by
    have h : pl x = true ∧ pls xs = true := by simpa [pls] using h
    have e : (match toPyD x, toPyDs xs with
      | some d, some ds => some (d :: ds)
      | _, _ => none) = some ds := e
    cases q : toPyD x with
    | none => simp [q] at e
    | some d => cases q' : toPyDs xs with
      | none => simp [q, q'] at e
      | some ds' =>
        simp only [q, q'] at e
        cases e
        intro t ht
        rcases List.mem_cons.mp ht with rfl | ht
        · exact pl_sgn x h.1 d q
        · exact pls_sgn xs h.2 ds' q' t ht
end
/-- repr of plain data, in every store -/
theorem repr_pl {x : Vl} (h : pl x = true) (hd : dp x ≤ 60) (hw : wt x ≤ 1000000) : ∃ z, (∀ st, bltM .repr st [x] = some (.str z)) ∧ strOk z = true := by
  obtain ⟨d, e, h1, h2, h3⟩ := pl_rep x h
  refine ⟨d.shown, fun st => ?_, sgn_strOk (pl_sgn x h d e)⟩
  have e2 : toPyDS st x = some d := by
    cases x with
    | obj i => simp [pl] at h
    | _ => exact e
  show (match toPyDS st x with
    | some d => if d.showable && decide (d.depth ≤ 60) && decide (d.shown.length ≤ sizeLine) then some (Vl.str d.shown) else none
    | none => none) = _
  rw [e2]
  have hs : sizeLine = 16777216 := rfl
  simp only [h1, Bool.true_and]
  rw [if_pos]
  simp only [Bool.and_eq_true, decide_eq_true_eq]
  omega
theorem q_S {st : Sto} {a b : Str} (h : strOk a = true) (g : strOk b = true) : eqM st (.str a) (.str b) = some (decide (a = b)) := by
  show (if shp (.str a) && shp (.str b) then some (PyData.eqv (.str a) (.str b)) else none) = _
  have e : ∀ z, strOk z = true → shp (.str z) = true := fun z hz => by
    show (strOk z && decide (PyData.depth (.str z) ≤ 64)) = true
    rw [hz]; rfl
  rw [e a h, e b g]
  rfl
theorem c_eqS {st : Sto} {a b : Str} (h : strOk a = true) (g : strOk b = true) : cmpA .eq st (.str a) (.str b) = some (decide (a = b)) := cA (o := .eq) (q_S (st := st) h g)
theorem c_neS {st : Sto} {a b : Str} (h : strOk a = true) (g : strOk b = true) : cmpA .ne st (.str a) (.str b) = some (!decide (a = b)) := cA (by show (eqM st (.str a) (.str b)).map not = _; rw [q_S (st := st) h g]; rfl)
end LG

set_option Elab.async false
set_option linter.all false
set_option maxRecDepth 100000
set_option maxHeartbeats 0
/-! defs that many laws share -/
namespace LG
open PySem L2
def g_is_name : Fn := ⟨1, ["thing", "sign"], (.cons (.ite (.or (.nt (.isi (.var 0) [.ty "str"])) (.nt (.chn .le .le (.int 1) (.blt .len (.cons (.var 0) .nil)) (.gint "LONGEST" 8)))) (.cons (.ret (.bl false)) .nil) .nil) (.cons (.ret (.blt .all (.cons (.fr (.comp [("sign", 1)] (.cmp .isin (.var 1) (.gstr "LETTERS" "abcdefghijklmnopqrstuvwxyz")) (.nm 1) (.seq (.var 0)) .non)) .nil))) .nil))⟩
def g_are_locks : Fn := ⟨1, ["thing", "lock"], (.cons (.ite (.or (.nt (.isi (.var 0) [.ty "tuple"])) (.or (.cmp .notin (.blt .len (.cons (.var 0) .nil)) (.tup (.cons (.int 1) (.cons (.int 2) .nil)))) (.nt (.blt .all (.cons (.fr (.comp [("lock", 1)] (.cal "is_name" (.cons (.var 1) .nil)) (.nm 1) (.seq (.var 0)) .non)) .nil))))) (.cons (.ret (.bl false)) .nil) .nil) (.cons (.ret (.or (.cmp .eq (.blt .len (.cons (.var 0) .nil)) (.int 1)) (.cmp .lt (.idx (.var 0) (.int 0)) (.idx (.var 0) (.int 1))))) .nil))⟩
def g_is_item : Fn := ⟨2, ["thing", "around", "lock"], (.cons (.ite (.or (.nt (.isi (.var 0) [.ty "tuple"])) (.or (.cmp .notin (.blt .len (.cons (.var 0) .nil)) (.tup (.cons (.int 1) (.cons (.int 2) (.cons (.int 3) .nil))))) (.nt (.isi (.idx (.var 0) (.int 0)) [.ty "str"])))) (.cons (.ret (.bl false)) .nil) .nil) (.cons (.ite (.cmp .eq (.blt .len (.cons (.var 0) .nil)) (.int 1)) (.cons (.ret (.cmp .eq (.idx (.var 0) (.int 0)) (.str "pause"))) .nil) .nil) (.cons (.ite (.cmp .eq (.blt .len (.cons (.var 0) .nil)) (.int 2)) (.cons (.ret (.and (.cmp .eq (.idx (.var 0) (.int 0)) (.str "step")) (.cal "is_name" (.cons (.idx (.var 0) (.int 1)) .nil)))) .nil) .nil) (.cons (.ite (.or (.cmp .ne (.idx (.var 0) (.int 0)) (.str "section")) (.or (.nt (.cal "are_locks" (.cons (.idx (.var 0) (.int 1)) .nil))) (.blt .any (.cons (.fr (.comp [("lock", 2)] (.cmp .isin (.var 2) (.var 1)) (.nm 2) (.seq (.idx (.var 0) (.int 1))) .non)) .nil)))) (.cons (.ret (.bl false)) .nil) .nil) (.cons (.ret (.cal "are_items" (.cons (.idx (.var 0) (.int 2)) (.cons (.bin .add (.var 1) (.idx (.var 0) (.int 1))) .nil)))) .nil)))))⟩
def g_are_items : Fn := ⟨2, ["thing", "around", "item"], (.cons (.ret (.and (.isi (.var 0) [.ty "tuple"]) (.blt .all (.cons (.fr (.comp [("item", 2)] (.cal "is_item" (.cons (.var 2) (.cons (.var 1) .nil))) (.nm 2) (.seq (.var 0)) .non)) .nil)))) .nil)⟩
def g_is_body : Fn := ⟨1, ["thing"], (.cons (.ret (.cal "are_items" (.cons (.var 0) (.cons (.tup .nil) .nil)))) .nil)⟩
def g__law_begin : Fn := ⟨1, ["_law_script", "_law_cells", "_law_cell"], (.cons (.asg (.nm 1) (.fr (.comp [("_law_cell", 2)] (.blt .abs (.cons (.var 2) .nil)) (.nm 2) (.seq (.slc (.var 0) .non (.som (.int 63)))) .non))) (.cons (.retF (.disp ["cells", "at", "mix"] (.cons (.mko (.bin .add (.var 1) (.bin .mul (.fr (.lst (.cons (.int 5) .nil))) (.blt .int (.cons (.cmp .eq (.var 1) (.fr (.lst .nil))) .nil))))) (.cons (.int 0) (.cons (.int 1) .nil))))) .nil))⟩
def g__law_take : Fn := ⟨2, ["_law_state", "_law_size", "_law_cells", "_law_at", "_law_cell"], (.cons (.asg (.nm 2) (.idx (.var 0) (.str "cells"))) (.cons (.asg (.nm 3) (.bin .mod (.blt .int (.cons (.idx (.var 0) (.str "at")) .nil)) (.blt .len (.cons (.var 2) .nil)))) (.cons (.asg (.nm 4) (.idx (.var 2) (.var 3))) (.cons (.ite (.cmp .ge (.var 4) (.bin .pow (.int 10) (.int 18))) (.cons (.setI (.var 2) (.var 3) (.bin .fdiv (.var 4) (.var 1))) (.cons (.ret (.bin .mod (.blt .int (.cons (.var 4) .nil)) (.var 1))) .nil)) .nil) (.cons (.setI (.var 0) (.str "at") (.bin .add (.idx (.var 0) (.str "at")) (.int 1))) (.cons (.setI (.var 0) (.str "mix") (.bin .mod (.blt .int (.cons (.bin .add (.bin .add (.bin .add (.bin .mul (.idx (.var 0) (.str "mix")) (.int 48271)) (.var 4)) (.bin .mul (.int 7919) (.idx (.var 0) (.str "at")))) (.int 11)) .nil)) (.int 2147483647))) (.cons (.ret (.bin .mod (.bin .fdiv (.bin .mod (.blt .int (.cons (.bin .mul (.idx (.var 0) (.str "mix")) (.idx (.var 0) (.str "mix"))) .nil)) (.int 2147483629)) (.int 16)) (.var 1))) .nil)))))))⟩
def g__law_pick : Fn := ⟨2, ["_law_state", "_law_some"], (.cons (.ret (.idx (.var 1) (.cal "_law_take" (.cons (.var 0) (.cons (.blt .len (.cons (.var 1) .nil)) .nil))))) .nil)⟩
def g__law_names : Fn := ⟨2, ["_law_state", "_law_many", "_law_letters", "_law_shift", "_law_k", "_law_long", "_law_place", "_law_base", "_law_signs", "_law_sign"], (.cons (.asg (.nm 2) (.str "abcdefghijklmnopqrstuvwxyz")) (.cons (.asg (.nm 3) (.cal "_law_take" (.cons (.var 0) (.cons (.int 26) .nil)))) (.cons (.ite (.and (.cmp .eq (.cal "_law_take" (.cons (.var 0) (.cons (.int 3) .nil))) (.int 0)) (.cmp .lt (.var 1) (.int 9))) (.cons (.retF (.comp [("_law_k", 4)] (.bin .mul (.idx (.var 2) (.var 3)) (.bin .add (.int 1) (.var 4))) (.nm 4) (.rng1 (.var 1)) .non)) .nil) .nil) (.cons (.asg (.nm 5) (.bin .add (.int 1) (.cal "_law_take" (.cons (.var 0) (.cons (.int 8) .nil))))) (.cons (.asg (.nm 6) (.cal "_law_take" (.cons (.var 0) (.cons (.var 5) .nil)))) (.cons (.asg (.nm 7) (.txt .join (.str "") (.cons (.fr (.comp [("_law_k", 4)] (.idx (.var 2) (.bin .mod (.blt .int (.cons (.bin .add (.var 3) (.bin .mul (.int 7) (.var 4))) .nil)) (.int 26))) (.nm 4) (.rng1 (.var 5)) .non)) .nil))) (.cons (.asg (.nm 8) (.fr (.comp [("_law_k", 4)] (.idx (.var 2) (.bin .mod (.blt .int (.cons (.bin .add (.bin .add (.var 3) (.int 5)) (.bin .mul (.int 3) (.var 4))) .nil)) (.int 26))) (.nm 4) (.rng1 (.var 1)) .non))) (.cons (.retF (.comp [("_law_sign", 9)] (.bin .add (.bin .add (.slc (.var 7) .non (.som (.var 6))) (.var 9)) (.slc (.var 7) (.som (.bin .add (.var 6) (.int 1))) .non)) (.nm 9) (.seq (.var 8)) .non)) .nil))))))))⟩
def g__law_mixed : Fn := ⟨2, ["_law_state", "_law_some", "_law_found", "_law_thing"], (.cons (.ownA 2 (.lst .nil)) (.cons (.forr (.nm 3) (.seq (.var 1)) (.cons (.ins 2 (.cal "_law_take" (.cons (.var 0) (.cons (.bin .add (.blt .len (.cons (.own 2) .nil)) (.int 1)) .nil))) (.var 3)) .nil)) (.cons (.retO 2) .nil)))⟩
def g__law_items : Fn := ⟨4, ["_law_state", "_law_kit", "_law_free", "_law_deep", "_law_found", "_law_turn", "_law_way", "_law_at", "_law_own", "_law_rest", "_law_is_pause", "_law_lock"], (.cons (.asg (.nm 4) (.tup .nil)) (.cons (.forr (.nm 5) (.rng1 (.cal "_law_pick" (.cons (.var 0) (.cons (.fr (.lst (.cons (.int 1) (.cons (.int 1) (.cons (.int 2) (.cons (.int 2) (.cons (.int 3) .nil))))))) .nil)))) (.cons (.asg (.nm 6) (.cal "_law_take" (.cons (.var 0) (.cons (.int 9) .nil)))) (.cons (.ite (.and (.cmp .lt (.var 6) (.int 5)) (.and (.cmp .ne (.var 2) (.fr (.lst .nil))) (.and (.cmp .lt (.var 3) (.int 4)) (.cmp .gt (.idx (.var 1) (.str "left")) (.int 2))))) (.cons (.setI (.var 1) (.str "left") (.bin .sub (.idx (.var 1) (.str "left")) (.int 2))) (.cons (.asg (.nm 7) (.cal "_law_take" (.cons (.var 0) (.cons (.blt .len (.cons (.var 2) .nil)) .nil)))) (.cons (.asg (.nm 8) (.blt .tuple (.cons (.fr (.blt .sorted (.slc (.var 2) (.som (.var 7)) (.som (.bin .add (.bin .add (.var 7) (.int 1)) (.blt .int (.cons (.cmp .eq (.var 6) (.int 0)) .nil))))))) .nil))) (.cons (.asg (.nm 9) (.fr (.comp [("_law_lock", 11)] (.var 11) (.nm 11) (.seq (.var 2)) (.som (.cmp .notin (.var 11) (.var 8)))))) (.cons (.asg (.nm 4) (.bin .add (.var 4) (.tup (.cons (.tup (.cons (.str "section") (.cons (.var 8) (.cons (.cal "_law_items" (.cons (.var 0) (.cons (.var 1) (.cons (.var 9) (.cons (.bin .add (.var 3) (.int 1)) .nil))))) .nil)))) .nil)))) .nil))))) (.cons (.ite (.cmp .gt (.idx (.var 1) (.str "left")) (.int 0)) (.cons (.setI (.var 1) (.str "left") (.bin .sub (.idx (.var 1) (.str "left")) (.int 1))) (.cons (.asg (.nm 10) (.and (.cmp .eq (.var 6) (.int 5)) (.idx (.var 1) (.str "pauses")))) (.cons (.asg (.nm 4) (.bin .add (.var 4) (.tup (.cons (.ite (.var 10) (.tup (.cons (.str "pause") .nil)) (.tup (.cons (.str "step") (.cons (.cal "_law_pick" (.cons (.var 0) (.cons (.idx (.var 1) (.str "steps")) .nil))) .nil)))) .nil)))) .nil))) .nil) .nil)) .nil))) (.cons (.ret (.var 4)) .nil)))⟩
def g__law_nest : Fn := ⟨3, ["_law_state", "_law_kit", "_law_free", "_law_deep", "_law_order", "_law_passed", "_law_found", "_law_lock"], (.cons (.asg (.nm 3) (.bin .add (.int 2) (.blt .int (.cons (.and (.cmp .gt (.blt .len (.cons (.var 2) .nil)) (.int 3)) (.and (.cmp .gt (.idx (.var 1) (.str "left")) (.int 9)) (.cmp .eq (.cal "_law_take" (.cons (.var 0) (.cons (.int 3) .nil))) (.int 0)))) .nil)))) (.cons (.asg (.nm 4) (.cal "_law_mixed" (.cons (.var 0) (.cons (.var 2) .nil)))) (.cons (.asg (.nm 5) (.tup (.cons (.str "section") (.cons (.tup (.cons (.idx (.var 4) (.var 3)) .nil)) (.cons (.bin .mul (.tup (.cons (.tup (.cons (.str "step") (.cons (.idx (.idx (.var 1) (.str "steps")) (.int 0)) .nil))) .nil)) (.cal "_law_take" (.cons (.var 0) (.cons (.int 2) .nil)))) .nil))))) (.cons (.asg (.nm 6) (.tup (.cons (.var 5) (.cons (.tup (.cons (.str "step") (.cons (.cal "_law_pick" (.cons (.var 0) (.cons (.idx (.var 1) (.str "steps")) .nil))) .nil))) .nil)))) (.cons (.forr (.nm 7) (.seq (.rev (.slc (.var 4) .non (.som (.var 3))))) (.cons (.asg (.nm 6) (.tup (.cons (.tup (.cons (.str "section") (.cons (.tup (.cons (.var 7) .nil)) (.cons (.bin .add (.var 6) (.bin .mul (.tup (.cons (.tup (.cons (.str "step") (.cons (.idx (.idx (.var 1) (.str "steps")) (.int 1)) .nil))) .nil)) (.blt .int (.cons (.cmp .eq (.cal "_law_take" (.cons (.var 0) (.cons (.int 3) .nil))) (.int 0)) .nil)))) .nil)))) .nil))) .nil)) (.cons (.ret (.var 6)) .nil))))))⟩
def g__law_program : Fn := ⟨3, ["_law_state", "_law_many", "_law_size", "_law_names_here", "_law_locks", "_law_kit", "_law_found", "_law_name"], (.cons (.par 3 4 (.e (.cal "_law_names" (.cons (.var 0) (.cons (.var 1) .nil)))) (.e (.cal "_law_names" (.cons (.var 0) (.cons (.bin .add (.int 3) (.cal "_law_take" (.cons (.var 0) (.cons (.int 3) .nil)))) .nil))))) (.cons (.par 5 6 (.e (.mko (.disp ["steps", "pauses"] (.cons (.cal "_law_names" (.cons (.var 0) (.cons (.int 3) .nil))) (.cons (.cmp .eq (.cal "_law_take" (.cons (.var 0) (.cons (.int 3) .nil))) (.int 0)) .nil))))) (.o .dnewK)) (.cons (.forr (.nm 7) (.seq (.var 3)) (.cons (.setI (.var 5) (.str "left") (.var 2)) (.cons (.ite (.and (.cmp .gt (.var 2) (.int 8)) (.cmp .eq (.cal "_law_take" (.cons (.var 0) (.cons (.int 2) .nil))) (.int 0))) (.cons (.setS 6 (.var 7) (.cal "_law_nest" (.cons (.var 0) (.cons (.var 5) (.cons (.var 4) .nil))))) .nil) (.cons (.setS 6 (.var 7) (.cal "_law_items" (.cons (.var 0) (.cons (.var 5) (.cons (.var 4) (.cons (.int 0) .nil)))))) .nil)) .nil))) (.cons (.retO 6) .nil))))⟩
def g__law_odd : Fn := ⟨1, ["_law_state", "_law_some"], (.cons (.asg (.nm 1) (.fr (.lst (.cons .non (.cons (.bl true) (.cons (.bl false) (.cons (.int 0) (.cons (.int 5) (.cons (.neg (.int 1)) (.cons (.str "") (.cons (.str "a") (.cons (.str "A") (.cons (.str "step") (.cons (.str "pause") (.cons (.str "section") (.cons (.tup .nil) (.cons (.fr (.lst .nil)) (.cons (.fr .dnewK) (.cons (.tup (.cons (.str "a") .nil)) (.cons (.tup (.cons (.str "pause") .nil)) .nil)))))))))))))))))))) (.cons (.ret (.cal "_law_pick" (.cons (.var 0) (.cons (.bin .add (.var 1) (.fr (.lst (.cons (.tup (.cons (.str "step") (.cons (.str "a") .nil))) (.cons (.fr (.lst (.cons (.str "pause") .nil))) (.cons (.tup (.cons (.str "b") (.cons (.str "a") .nil))) (.cons (.tup (.cons (.str "a") (.cons (.str "a") .nil))) (.cons (.tup (.cons (.str "a") (.cons (.str "b") (.cons (.str "c") .nil)))) (.cons (.str "abcdefghi") .nil))))))))) .nil)))) .nil))⟩
def g__law_bent : Fn := ⟨2, ["_law_state", "_law_thing", "_law_at", "_law_way", "_law_other"], (.cons (.ite (.or (.nt (.isi (.var 1) [.ty "tuple"])) (.or (.cmp .eq (.var 1) (.tup .nil)) (.cmp .eq (.cal "_law_take" (.cons (.var 0) (.cons (.int 6) .nil))) (.int 0)))) (.cons (.ite (.and (.isi (.var 1) [.ty "tuple"]) (.cmp .eq (.cal "_law_take" (.cons (.var 0) (.cons (.int 2) .nil))) (.int 0))) (.cons (.ret (.cal "_law_pick" (.cons (.var 0) (.cons (.fr (.lst (.cons (.fr (.blt .list (.var 1))) (.cons (.bin .add (.var 1) (.slc (.var 1) .non (.som (.int 1)))) (.cons (.rev (.var 1)) (.cons (.tup (.cons (.var 1) .nil)) .nil)))))) .nil)))) .nil) .nil) (.cons (.ite (.and (.isi (.var 1) [.ty "str"]) (.cmp .eq (.cal "_law_take" (.cons (.var 0) (.cons (.int 2) .nil))) (.int 0))) (.cons (.ret (.cal "_law_pick" (.cons (.var 0) (.cons (.fr (.lst (.cons (.bin .add (.var 1) (.str "a")) (.cons (.slc (.var 1) (.som (.int 1)) .non) (.cons (.txt .upper (.var 1) .nil) (.cons (.bin .add (.var 1) (.str " ")) (.cons (.bin .add (.str "a") (.var 1)) (.cons (.rev (.var 1)) .nil)))))))) .nil)))) .nil) .nil) (.cons (.ret (.cal "_law_odd" (.cons (.var 0) .nil))) .nil))) .nil) (.cons (.asg (.nm 2) (.cal "_law_take" (.cons (.var 0) (.cons (.blt .len (.cons (.var 1) .nil)) .nil)))) (.cons (.asg (.nm 3) (.cal "_law_take" (.cons (.var 0) (.cons (.int 9) .nil)))) (.cons (.ite (.cmp .eq (.var 3) (.int 0)) (.cons (.ret (.bin .add (.slc (.var 1) .non (.som (.var 2))) (.slc (.var 1) (.som (.bin .add (.var 2) (.int 1))) .non))) .nil) .nil) (.cons (.ite (.cmp .eq (.var 3) (.int 1)) (.cons (.ret (.bin .add (.slc (.var 1) .non (.som (.bin .add (.var 2) (.int 1)))) (.slc (.var 1) (.som (.var 2)) .non))) .nil) .nil) (.cons (.ite (.cmp .eq (.var 3) (.int 2)) (.cons (.asg (.nm 4) (.cal "_law_take" (.cons (.var 0) (.cons (.blt .len (.cons (.var 1) .nil)) .nil)))) (.cons (.ret (.bin .add (.bin .add (.slc (.var 1) .non (.som (.var 2))) (.tup (.cons (.idx (.var 1) (.var 4)) .nil))) (.slc (.var 1) (.som (.bin .add (.var 2) (.int 1))) .non))) .nil)) .nil) (.cons (.ret (.bin .add (.bin .add (.slc (.var 1) .non (.som (.var 2))) (.tup (.cons (.cal "_law_bent" (.cons (.var 0) (.cons (.idx (.var 1) (.var 2)) .nil))) .nil))) (.slc (.var 1) (.som (.bin .add (.var 2) (.int 1))) .non))) .nil)))))))⟩
def g__law_is_name : Fn := ⟨1, ["_law_thing", "_law_sign"], (.cons (.ite (.or (.nt (.isi (.var 0) [.ty "str"])) (.nt (.chn .lt .lt (.int 0) (.blt .len (.cons (.var 0) .nil)) (.int 9)))) (.cons (.ret (.bl false)) .nil) .nil) (.cons (.ret (.cmp .eq (.fr (.comp [("_law_sign", 1)] (.var 1) (.nm 1) (.seq (.var 0)) (.som (.cmp .notin (.var 1) (.str "abcdefghijklmnopqrstuvwxyz"))))) (.fr (.lst .nil)))) .nil))⟩
def g__law_is_body : Fn := ⟨2, ["_law_thing", "_law_around", "_law_item", "_law_lock"], (.cons (.ite (.nt (.isi (.var 0) [.ty "tuple"])) (.cons (.ret (.bl false)) .nil) .nil) (.cons (.forr (.nm 2) (.seq (.var 0)) (.cons (.ite (.or (.nt (.isi (.var 2) [.ty "tuple"])) (.or (.cmp .eq (.var 2) (.tup .nil)) (.nt (.isi (.idx (.var 2) (.int 0)) [.ty "str"])))) (.cons (.ret (.bl false)) .nil) .nil) (.cons (.ite (.cmp .eq (.idx (.var 2) (.int 0)) (.str "section")) (.cons (.ite (.or (.cmp .ne (.blt .len (.cons (.var 2) .nil)) (.int 3)) (.or (.nt (.isi (.idx (.var 2) (.int 1)) [.ty "tuple"])) (.cmp .notin (.blt .len (.cons (.idx (.var 2) (.int 1)) .nil)) (.tup (.cons (.int 1) (.cons (.int 2) .nil)))))) (.cons (.ret (.bl false)) .nil) .nil) (.cons (.ite (.cmp .ne (.fr (.comp [("_law_lock", 3)] (.var 3) (.nm 3) (.seq (.idx (.var 2) (.int 1))) (.som (.or (.nt (.cal "_law_is_name" (.cons (.var 3) .nil))) (.cmp .isin (.var 3) (.var 1)))))) (.fr (.lst .nil))) (.cons (.ret (.bl false)) .nil) .nil) (.cons (.ite (.or (.and (.cmp .eq (.blt .len (.cons (.idx (.var 2) (.int 1)) .nil)) (.int 2)) (.cmp .ge (.idx (.idx (.var 2) (.int 1)) (.int 0)) (.idx (.idx (.var 2) (.int 1)) (.int 1)))) (.nt (.cal "_law_is_body" (.cons (.idx (.var 2) (.int 2)) (.cons (.bin .add (.var 1) (.fr (.blt .list (.idx (.var 2) (.int 1))))) .nil))))) (.cons (.ret (.bl false)) .nil) .nil) .nil))) (.cons (.ite (.and (.cmp .ne (.var 2) (.tup (.cons (.str "pause") .nil))) (.or (.cmp .ne (.idx (.var 2) (.int 0)) (.str "step")) (.or (.cmp .ne (.blt .len (.cons (.var 2) .nil)) (.int 2)) (.nt (.cal "_law_is_name" (.cons (.idx (.var 2) (.int 1)) .nil)))))) (.cons (.ret (.bl false)) .nil) .nil) .nil)) .nil))) (.cons (.ret (.bl true)) .nil)))⟩
end LG

set_option Elab.async false
set_option linter.all false
set_option maxRecDepth 100000
set_option maxHeartbeats 4000000
/-! P3: the source of draws. -/
namespace LG
open PySem L2 PyProof.Rows
open PySem.PyData (strOk)
theorem nCA : ¬ (("cells" : Str) = "at") := by decide +kernel
theorem nCM : ¬ (("cells" : Str) = "mix") := by decide +kernel
theorem nAM : ¬ (("at" : Str) = "mix") := by decide +kernel
/-- the state of draws: the dict at i, the cells' list at j -/
def Dr (st : Sto) (i j : Nat) : Prop := ∃ (cs : List Int) (a m : Int), i ≠ j ∧ cs ≠ [] ∧ cs.length ≤ 64 ∧ (∀ c ∈ cs, 0 ≤ c) ∧ 0 ≤ a ∧ 0 ≤ m ∧ m < 2147483647 ∧
    st[j]? = some (.lst (cs.map .int)) ∧ st[i]? = some (.dk [(.inr "cells", .obj j), (.inr "at", .int a), (.inr "mix", .int m)])
/-- all objects but some are as they were -/
def Up (ks : List Nat) (st s : Sto) : Prop := ∀ k o, k ∉ ks → st[k]? = some o → s[k]? = some o
theorem Up.refl {ks : List Nat} {st : Sto} : Up ks st st := fun _ _ _ h => h
theorem Up.trans {ks : List Nat} {st s s' : Sto} (a : Up ks st s) (b : Up ks s s') : Up ks st s' := fun k o n h => b k o n (a k o n h)
theorem Up.mono {ks ls : List Nat} {st s : Sto} (a : Up ks st s) (h : ∀ k ∈ ks, k ∈ ls) : Up ls st s := fun k o n e => a k o (fun m => n (h k m)) e
theorem Up.set {ks : List Nat} {st : Sto} {i : Nat} {o : Ob} (h : i ∈ ks) : Up ks st (st.set i o) := fun k u n e => by
  rw [List.getElem?_set_ne]
  · exact e
  · rintro rfl; exact n h
structure DS (i j : Nat) (st s : Sto) : Prop where
  dr : Dr s i j
  up : Up [i, j] st s
theorem DS.trans {i j : Nat} {st s s' : Sto} (a : DS i j st s) (b : DS i j s s') : DS i j st s' := ⟨b.dr, a.up.trans b.up⟩
theorem DS.refl {i j : Nat} {st : Sto} (a : Dr st i j) : DS i j st st := ⟨a, .refl⟩
theorem DS.get {i j k : Nat} {st s : Sto} {o : Ob} (a : DS i j st s) (hi : k ≠ i) (hj : k ≠ j) (h : st[k]? = some o) : s[k]? = some o := a.up k o (by simp [hi, hj]) h
variable {tb : Tb} {cls : List Str} {fu d : Nat}
theorem lt_of_get {st : Sto} {i : Nat} {o : Ob} (h : st[i]? = some o) : i < st.length := (List.getElem?_eq_some_iff.mp h).1
theorem ixN_ok {n : Nat} {k : Int} (h0 : 0 ≤ k) (h : k < n) : ixN n k = some k.toNat := by unfold ixN; rw [if_pos h0, if_pos h]
theorem take_spec (ht : tb.lookup ("_law_take" : Str) = some g__law_take) {i j : Nat} {n : Int} {st : Sto} (h : Dr st i j) (h1 : 0 < n) (h2 : n < 1073741824) :
    Ev1 (callD tb cls fu (d + 1) "_law_take" [.obj i, .int n]) st (fun r s => ∃ k : Int, r = .vl (.int k) ∧ 0 ≤ k ∧ k < n ∧ DS i j st s) := by
  obtain ⟨cs, a, m, hne, hc, hl, hp, ha, hm, hm2, hj, hi⟩ := h
  rw [call_eq ht rfl (Nat.le_of_ble_eq_true rfl), ev_bnd]
  have hlen : 0 < cs.length := by cases cs with | nil => exact absurd rfl hc | cons _ _ => simp
  have e1 : idxM st (.obj i) (.str "cells") = some (.obj j) := by simp [idxM, asDk, hi, toKey, valD]
  have e2 : idxM st (.obj i) (.str "at") = some (.int a) := by simp [idxM, asDk, hi, toKey, valD, nCA]
  have e3 : idxM st (.obj i) (.str "mix") = some (.int m) := by simp [idxM, asDk, hi, toKey, valD, nCM, nAM]
  have e4 : bltM .len st [.obj j] = some (.int cs.length) := by simp [bltM, lenM, asSeq, asList, hj]
  have hq0 : 0 ≤ a % (cs.length : Int) := Int.emod_nonneg _ (by omega)
  have hq1 : a % (cs.length : Int) < cs.length := Int.emod_lt_of_pos _ (by omega)
  generalize hat : a % (cs.length : Int) = at_ at hq0 hq1
  obtain ⟨c, hcg⟩ : ∃ c, cs[at_.toNat]? = some c := ⟨_, List.getElem?_eq_getElem (by omega)⟩
  have hc0 : 0 ≤ c := hp c (List.mem_of_getElem? hcg)
  have e5 : idxM st (.obj j) (.int at_) = some (.int c) := by
    have ed : asDk st (.obj j) = none := by simp [asDk, hj]
    simp [idxM, ed, asList, hj, atI, ixN_ok hq0 hq1, hcg]
  simp only [g__law_take, ev_bnd, ev_ret, s_cons, s_nil, s_nx, s_rt, s_ct, s_bk, ev_asg, ev_set, evE, evT, e_var, e_own, e_int, e_bl, e_str, e_non, e_gstr, e_gint, e_bin, e_idx, t_cmp, e_cmp, s_ite, s_ret, es_nil, es_cons, e_blt, e_tup, e_cal, t_nt, e_ite, t_ite, e_rev, e_atr, e_mkx, e_mkk, o_non, o_som, e_slc, e_fr, e_mko, f_cal, f_blt, s_retF, e_and, e_or, e_nt, e_neg, t_chn, e_chn, f_lst, e_isi, e_txt, s_par, i_seq, i_rng1, i_rng2, s_own, s_ins, s_app, s_setS, s_exp, s_for, s_frz, f_comp, f_slc, f_bin, f_disp, f_dnewK, c_non, c_som, t_var, t_idx, t_cal, t_blt, t_isi, t_bl, t_fr, t_txt, v_e, v_o, s_retO, s_pass, s_whl, ev_compF, ev_forB, endV_vl, endV_fr, ev_okV, ev_frozen, endF_fr, rtE_nx, rtE_rt, slOf_l, slOf_d, ownL_l, ownG_l, ownG_d, rtO_l, rtO_d, seqI_l, seqI_t, seqI_s, seqI_b, b_addI, b_subI, b_mulI, b_modI, b_fdivI, b_addS, b_addT, b_mulS, b_mulT, b_addLL, b_mulL, b_pow1018, c_ltI, c_leI, c_gtI, c_geI, c_eqI, c_neI, c_eqS, c_neS, c_ltS, c_leS, c_gtS, c_geS, tr_bl, tr_int, tr_non, l_abs, l_int, l_intb, intOf_i, strOf_s, toVl_l, toVl_d, x_if, x_map, x_none, x_some, xb_if, List.getElem?_cons_zero, List.getElem?_cons_succ, List.set_cons_zero, List.set_cons_succ, List.map_cons, List.map_nil, wipeE, st1_n, st1_x, st1_e, Option.some.injEq, Sl.v.injEq, Sl.l.injEq, Sl.d.injEq, Vl.int.injEq, Vl.bl.injEq, Vl.str.injEq, exists_eq_left', exists_eq_left, true_and, and_true, if_true, reduceIte, Bool.not_true, Bool.not_false, Bool.true_eq_false, Bool.false_eq_true, if_false, decide_eq_true_eq, Bool.not_eq_true', decide_true, decide_false, Int.reducePow, Int.reduceNeg, Int.reduceLT, Int.reduceLE, or_true, true_or, and_self, List.all_nil, List.all_cons, List.length_nil, List.length_cons, Nat.zero_le, Nat.zero_add, Nat.reduceAdd, Bool.and_true, Bool.true_and, Bool.and_self, exists_const, Nat.reduceBneDiff, Nat.reduceLeDiff, notBorI, notBorS, notBorB, notBorT, notBorL, notBorO, notBorN, notBorD, notBorE]
  simp only [e1, e2, e4, hat, e5, ev_bnd, ev_ret, s_cons, s_nil, s_nx, s_rt, s_ct, s_bk, ev_asg, ev_set, evE, evT, e_var, e_own, e_int, e_bl, e_str, e_non, e_gstr, e_gint, e_bin, e_idx, t_cmp, e_cmp, s_ite, s_ret, es_nil, es_cons, e_blt, e_tup, e_cal, t_nt, e_ite, t_ite, e_rev, e_atr, e_mkx, e_mkk, o_non, o_som, e_slc, e_fr, e_mko, f_cal, f_blt, s_retF, e_and, e_or, e_nt, e_neg, t_chn, e_chn, f_lst, e_isi, e_txt, s_par, i_seq, i_rng1, i_rng2, s_own, s_ins, s_app, s_setS, s_exp, s_for, s_frz, f_comp, f_slc, f_bin, f_disp, f_dnewK, c_non, c_som, t_var, t_idx, t_cal, t_blt, t_isi, t_bl, t_fr, t_txt, v_e, v_o, s_retO, s_pass, s_whl, ev_compF, ev_forB, endV_vl, endV_fr, ev_okV, ev_frozen, endF_fr, rtE_nx, rtE_rt, slOf_l, slOf_d, ownL_l, ownG_l, ownG_d, rtO_l, rtO_d, seqI_l, seqI_t, seqI_s, seqI_b, b_addI, b_subI, b_mulI, b_modI, b_fdivI, b_addS, b_addT, b_mulS, b_mulT, b_addLL, b_mulL, b_pow1018, c_ltI, c_leI, c_gtI, c_geI, c_eqI, c_neI, c_eqS, c_neS, c_ltS, c_leS, c_gtS, c_geS, tr_bl, tr_int, tr_non, l_abs, l_int, l_intb, intOf_i, strOf_s, toVl_l, toVl_d, x_if, x_map, x_none, x_some, xb_if, List.getElem?_cons_zero, List.getElem?_cons_succ, List.set_cons_zero, List.set_cons_succ, List.map_cons, List.map_nil, wipeE, st1_n, st1_x, st1_e, Option.some.injEq, Sl.v.injEq, Sl.l.injEq, Sl.d.injEq, Vl.int.injEq, Vl.bl.injEq, Vl.str.injEq, exists_eq_left', exists_eq_left, true_and, and_true, if_true, reduceIte, Bool.not_true, Bool.not_false, Bool.true_eq_false, Bool.false_eq_true, if_false, decide_eq_true_eq, Bool.not_eq_true', decide_true, decide_false, Int.reducePow, Int.reduceNeg, Int.reduceLT, Int.reduceLE, or_true, true_or, and_self, List.all_nil, List.all_cons, List.length_nil, List.length_cons, Nat.zero_le, Nat.zero_add, Nat.reduceAdd, Bool.and_true, Bool.true_and, Bool.and_self, exists_const, Nat.reduceBneDiff, Nat.reduceLeDiff, notBorI, notBorS, notBorB, notBorT, notBorL, notBorO, notBorN, notBorD, notBorE]
  refine ⟨by omega, ?_⟩
  by_cases hbig : (1000000000000000000 : Int) ≤ c
  · simp only [hbig, ev_bnd, ev_ret, s_cons, s_nil, s_nx, s_rt, s_ct, s_bk, ev_asg, ev_set, evE, evT, e_var, e_own, e_int, e_bl, e_str, e_non, e_gstr, e_gint, e_bin, e_idx, t_cmp, e_cmp, s_ite, s_ret, es_nil, es_cons, e_blt, e_tup, e_cal, t_nt, e_ite, t_ite, e_rev, e_atr, e_mkx, e_mkk, o_non, o_som, e_slc, e_fr, e_mko, f_cal, f_blt, s_retF, e_and, e_or, e_nt, e_neg, t_chn, e_chn, f_lst, e_isi, e_txt, s_par, i_seq, i_rng1, i_rng2, s_own, s_ins, s_app, s_setS, s_exp, s_for, s_frz, f_comp, f_slc, f_bin, f_disp, f_dnewK, c_non, c_som, t_var, t_idx, t_cal, t_blt, t_isi, t_bl, t_fr, t_txt, v_e, v_o, s_retO, s_pass, s_whl, ev_compF, ev_forB, endV_vl, endV_fr, ev_okV, ev_frozen, endF_fr, rtE_nx, rtE_rt, slOf_l, slOf_d, ownL_l, ownG_l, ownG_d, rtO_l, rtO_d, seqI_l, seqI_t, seqI_s, seqI_b, b_addI, b_subI, b_mulI, b_modI, b_fdivI, b_addS, b_addT, b_mulS, b_mulT, b_addLL, b_mulL, b_pow1018, c_ltI, c_leI, c_gtI, c_geI, c_eqI, c_neI, c_eqS, c_neS, c_ltS, c_leS, c_gtS, c_geS, tr_bl, tr_int, tr_non, l_abs, l_int, l_intb, intOf_i, strOf_s, toVl_l, toVl_d, x_if, x_map, x_none, x_some, xb_if, List.getElem?_cons_zero, List.getElem?_cons_succ, List.set_cons_zero, List.set_cons_succ, List.map_cons, List.map_nil, wipeE, st1_n, st1_x, st1_e, Option.some.injEq, Sl.v.injEq, Sl.l.injEq, Sl.d.injEq, Vl.int.injEq, Vl.bl.injEq, Vl.str.injEq, exists_eq_left', exists_eq_left, true_and, and_true, if_true, reduceIte, Bool.not_true, Bool.not_false, Bool.true_eq_false, Bool.false_eq_true, if_false, decide_eq_true_eq, Bool.not_eq_true', decide_true, decide_false, Int.reducePow, Int.reduceNeg, Int.reduceLT, Int.reduceLE, or_true, true_or, and_self, List.all_nil, List.all_cons, List.length_nil, List.length_cons, Nat.zero_le, Nat.zero_add, Nat.reduceAdd, Bool.and_true, Bool.true_and, Bool.and_self, exists_const, Nat.reduceBneDiff, Nat.reduceLeDiff, notBorI, notBorS, notBorB, notBorT, notBorL, notBorO, notBorN, notBorD, notBorE]
    refine ⟨⟨h1, h2⟩, st.set j (.lst ((cs.set at_.toNat (c / n)).map .int)), ?_, ?_, c % n, rfl, Int.emod_nonneg _ (by omega), Int.emod_lt_of_pos _ h1, ?_, ?_⟩
    · simp [setIM, hj, notBor, setOb, ixN_ok hq0 hq1, List.map_set]
    · exact h1
    · refine ⟨cs.set at_.toNat (c / n), a, m, hne, ?_, by simpa using hl, ?_, ha, hm, hm2, ?_, ?_⟩
      · intro e
        exact hc (List.eq_nil_of_length_eq_zero (by have := congrArg List.length e; rwa [List.length_set] at this))
      · intro x hx
        rcases List.mem_or_eq_of_mem_set hx with h | h
        · exact hp x h
        · subst h; exact Int.ediv_nonneg hc0 (by omega)
      · exact List.getElem?_set_self (lt_of_get hj)
      · rw [List.getElem?_set_ne (Ne.symm hne)]; exact hi
    · exact Up.set (by simp)
  · have f1 : setIM st (.obj i) (.str "at") (.int (a + 1)) = some (st.set i (.dk [(.inr "cells", .obj j), (.inr "at", .int (a + 1)), (.inr "mix", .int m)])) := by
      simp [setIM, hi, notBor, setOb, toKey, putD, nCA, Ne.symm nCA, nAM, Ne.symm nAM]
      decide
    generalize hu : st.set i (.dk [(.inr "cells", .obj j), (.inr "at", .int (a + 1)), (.inr "mix", .int m)]) = u at f1
    have hui : u[i]? = some (.dk [(.inr "cells", .obj j), (.inr "at", .int (a + 1)), (.inr "mix", .int m)]) := by rw [← hu]; exact List.getElem?_set_self (lt_of_get hi)
    have huj : u[j]? = some (.lst (cs.map .int)) := by rw [← hu, List.getElem?_set_ne hne]; exact hj
    have f2 : idxM u (.obj i) (.str "at") = some (.int (a + 1)) := by simp [idxM, asDk, hui, toKey, valD, nCA]
    have f3 : idxM u (.obj i) (.str "mix") = some (.int m) := by simp [idxM, asDk, hui, toKey, valD, nCM, nAM]
    have hq : 0 ≤ (m * 48271 + c + 7919 * (a + 1) + 11) % 2147483647 := Int.emod_nonneg _ (by decide)
    have hq' : (m * 48271 + c + 7919 * (a + 1) + 11) % 2147483647 < 2147483647 := Int.emod_lt_of_pos _ (by decide)
    simp only [hbig, f1, f2, f3, ev_bnd, ev_ret, s_cons, s_nil, s_nx, s_rt, s_ct, s_bk, ev_asg, ev_set, evE, evT, e_var, e_own, e_int, e_bl, e_str, e_non, e_gstr, e_gint, e_bin, e_idx, t_cmp, e_cmp, s_ite, s_ret, es_nil, es_cons, e_blt, e_tup, e_cal, t_nt, e_ite, t_ite, e_rev, e_atr, e_mkx, e_mkk, o_non, o_som, e_slc, e_fr, e_mko, f_cal, f_blt, s_retF, e_and, e_or, e_nt, e_neg, t_chn, e_chn, f_lst, e_isi, e_txt, s_par, i_seq, i_rng1, i_rng2, s_own, s_ins, s_app, s_setS, s_exp, s_for, s_frz, f_comp, f_slc, f_bin, f_disp, f_dnewK, c_non, c_som, t_var, t_idx, t_cal, t_blt, t_isi, t_bl, t_fr, t_txt, v_e, v_o, s_retO, s_pass, s_whl, ev_compF, ev_forB, endV_vl, endV_fr, ev_okV, ev_frozen, endF_fr, rtE_nx, rtE_rt, slOf_l, slOf_d, ownL_l, ownG_l, ownG_d, rtO_l, rtO_d, seqI_l, seqI_t, seqI_s, seqI_b, b_addI, b_subI, b_mulI, b_modI, b_fdivI, b_addS, b_addT, b_mulS, b_mulT, b_addLL, b_mulL, b_pow1018, c_ltI, c_leI, c_gtI, c_geI, c_eqI, c_neI, c_eqS, c_neS, c_ltS, c_leS, c_gtS, c_geS, tr_bl, tr_int, tr_non, l_abs, l_int, l_intb, intOf_i, strOf_s, toVl_l, toVl_d, x_if, x_map, x_none, x_some, xb_if, List.getElem?_cons_zero, List.getElem?_cons_succ, List.set_cons_zero, List.set_cons_succ, List.map_cons, List.map_nil, wipeE, st1_n, st1_x, st1_e, Option.some.injEq, Sl.v.injEq, Sl.l.injEq, Sl.d.injEq, Vl.int.injEq, Vl.bl.injEq, Vl.str.injEq, exists_eq_left', exists_eq_left, true_and, and_true, if_true, reduceIte, Bool.not_true, Bool.not_false, Bool.true_eq_false, Bool.false_eq_true, if_false, decide_eq_true_eq, Bool.not_eq_true', decide_true, decide_false, Int.reducePow, Int.reduceNeg, Int.reduceLT, Int.reduceLE, or_true, true_or, and_self, List.all_nil, List.all_cons, List.length_nil, List.length_cons, Nat.zero_le, Nat.zero_add, Nat.reduceAdd, Bool.and_true, Bool.true_and, Bool.and_self, exists_const, Nat.reduceBneDiff, Nat.reduceLeDiff, notBorI, notBorS, notBorB, notBorT, notBorL, notBorO, notBorN, notBorD, notBorE]
    generalize (m * 48271 + c + 7919 * (a + 1) + 11) % 2147483647 = q at hq hq'
    have f4 : setIM u (.obj i) (.str "mix") (.int q) = some (u.set i (.dk [(.inr "cells", .obj j), (.inr "at", .int (a + 1)), (.inr "mix", .int q)])) := by
      simp [setIM, hui, notBor, setOb, toKey, putD, nCA, Ne.symm nCA, nAM, Ne.symm nAM, nCM, Ne.symm nCM]
      decide
    generalize hv : u.set i (.dk [(.inr "cells", .obj j), (.inr "at", .int (a + 1)), (.inr "mix", .int q)]) = v at f4
    have hvi : v[i]? = some (.dk [(.inr "cells", .obj j), (.inr "at", .int (a + 1)), (.inr "mix", .int q)]) := by rw [← hv]; exact List.getElem?_set_self (lt_of_get hui)
    have hvj : v[j]? = some (.lst (cs.map .int)) := by rw [← hv, List.getElem?_set_ne hne]; exact huj
    have f5 : idxM v (.obj i) (.str "mix") = some (.int q) := by simp [idxM, asDk, hvi, toKey, valD, nCM, nAM]
    simp only [f4, f5, ev_bnd, ev_ret, s_cons, s_nil, s_nx, s_rt, s_ct, s_bk, ev_asg, ev_set, evE, evT, e_var, e_own, e_int, e_bl, e_str, e_non, e_gstr, e_gint, e_bin, e_idx, t_cmp, e_cmp, s_ite, s_ret, es_nil, es_cons, e_blt, e_tup, e_cal, t_nt, e_ite, t_ite, e_rev, e_atr, e_mkx, e_mkk, o_non, o_som, e_slc, e_fr, e_mko, f_cal, f_blt, s_retF, e_and, e_or, e_nt, e_neg, t_chn, e_chn, f_lst, e_isi, e_txt, s_par, i_seq, i_rng1, i_rng2, s_own, s_ins, s_app, s_setS, s_exp, s_for, s_frz, f_comp, f_slc, f_bin, f_disp, f_dnewK, c_non, c_som, t_var, t_idx, t_cal, t_blt, t_isi, t_bl, t_fr, t_txt, v_e, v_o, s_retO, s_pass, s_whl, ev_compF, ev_forB, endV_vl, endV_fr, ev_okV, ev_frozen, endF_fr, rtE_nx, rtE_rt, slOf_l, slOf_d, ownL_l, ownG_l, ownG_d, rtO_l, rtO_d, seqI_l, seqI_t, seqI_s, seqI_b, b_addI, b_subI, b_mulI, b_modI, b_fdivI, b_addS, b_addT, b_mulS, b_mulT, b_addLL, b_mulL, b_pow1018, c_ltI, c_leI, c_gtI, c_geI, c_eqI, c_neI, c_eqS, c_neS, c_ltS, c_leS, c_gtS, c_geS, tr_bl, tr_int, tr_non, l_abs, l_int, l_intb, intOf_i, strOf_s, toVl_l, toVl_d, x_if, x_map, x_none, x_some, xb_if, List.getElem?_cons_zero, List.getElem?_cons_succ, List.set_cons_zero, List.set_cons_succ, List.map_cons, List.map_nil, wipeE, st1_n, st1_x, st1_e, Option.some.injEq, Sl.v.injEq, Sl.l.injEq, Sl.d.injEq, Vl.int.injEq, Vl.bl.injEq, Vl.str.injEq, exists_eq_left', exists_eq_left, true_and, and_true, if_true, reduceIte, Bool.not_true, Bool.not_false, Bool.true_eq_false, Bool.false_eq_true, if_false, decide_eq_true_eq, Bool.not_eq_true', decide_true, decide_false, Int.reducePow, Int.reduceNeg, Int.reduceLT, Int.reduceLE, or_true, true_or, and_self, List.all_nil, List.all_cons, List.length_nil, List.length_cons, Nat.zero_le, Nat.zero_add, Nat.reduceAdd, Bool.and_true, Bool.true_and, Bool.and_self, exists_const, Nat.reduceBneDiff, Nat.reduceLeDiff, notBorI, notBorS, notBorB, notBorT, notBorL, notBorO, notBorN, notBorD, notBorE]
    refine ⟨by omega, h1, _, rfl, Int.emod_nonneg _ (by omega), Int.emod_lt_of_pos _ h1, ⟨cs, a + 1, q, hne, hc, hl, hp, by omega, hq, hq', hvj, hvi⟩, ?_⟩
    rw [← hv, ← hu]
    exact (Up.set (by simp)).trans (Up.set (by simp))
/-- for use behind a call -/
theorem take_use (ht : tb.lookup ("_law_take" : Str) = some g__law_take) {i j : Nat} {n : Int} {st : Sto} {P : Rt → Sto → Prop} (h : Dr st i j) (h1 : 0 < n) (h2 : n < 1073741824)
    (k : ∀ (k : Int) (s : Sto), 0 ≤ k → k < n → DS i j st s → P (.vl (.int k)) s) : Ev1 (callD tb cls fu (d + 1) "_law_take" [.obj i, .int n]) st P :=
  ev_mono (take_spec ht h h1 h2) fun r s ⟨q, e, a, b, c⟩ => by subst e; exact k q s a b c
end LG

set_option Elab.async false
set_option linter.all false
set_option maxRecDepth 100000
set_option maxHeartbeats 4000000
/-! P4: names. -/
namespace LG
open PySem L2 PyProof.Rows
open PySem.PyData (strOk)
variable {tb : Tb} {cls : List Str} {fu d : Nat}
theorem comp_map {β : Type} {f : Vl → M (Option Vl)} {st : Sto} {v w : β → Vl} : ∀ {xs : List β}, (∀ b ∈ xs, Pu (f (v b)) st (some (w b))) → Pu (compL f (xs.map v)) st (xs.map w)
  | [], _ => rfl
  | x :: xs, h => by
    have h1 := h x (List.mem_cons_self ..)
    have h2 := comp_map (f := f) (st := st) (v := v) (w := w) (xs := xs) fun y hy => h y (List.mem_cons_of_mem _ hy)
    refine pu_ev ?_
    show Ev1 (bnd (noX (f (v x))) fun o => bnd (compL f (xs.map v)) fun r => LG.ret (match o with | some y => y :: r | none => r)) st _
    rw [ev_bnd, ev_noX, ev_pu h1, ev_bnd, ev_pu h2, ev_ret]
    exact ⟨rfl, rfl⟩
theorem comp_filter {β : Type} {f : Vl → M (Option Vl)} {st : Sto} {v w : β → Vl} {p : β → Bool} : ∀ {xs : List β}, (∀ b ∈ xs, Pu (f (v b)) st (if p b = true then some (w b) else none)) → Pu (compL f (xs.map v)) st ((xs.filter p).map w)
  | [], _ => rfl
  | x :: xs, h => by
    have h1 := h x (List.mem_cons_self ..)
    have h2 := comp_filter (f := f) (st := st) (v := v) (w := w) (p := p) (xs := xs) fun y hy => h y (List.mem_cons_of_mem _ hy)
    refine pu_ev ?_
    show Ev1 (bnd (noX (f (v x))) fun o => bnd (compL f (xs.map v)) fun r => LG.ret (match o with | some y => y :: r | none => r)) st _
    rw [ev_bnd, ev_noX, ev_pu h1, ev_bnd, ev_pu h2, ev_ret]
    cases e : p x with
    | true => simp [List.filter_cons, e]
    | false => simp [List.filter_cons, e]
/-! strings by their signs -/
theorem strEq {a b : Str} (h : a.cps.toList = b.cps.toList) : a = b := by
  cases a; cases b; congr 1; exact Array.toList_inj.mp h
theorem tl_app (a b : Str) : (a ++ b).cps.toList = a.cps.toList ++ b.cps.toList := cps_toList_append a b
theorem tl_len (a : Str) : a.length = a.cps.toList.length := by simp [Str.length]
theorem tl_mk (l : List Nat) : (⟨l.toArray⟩ : Str).cps.toList = l := rfl
theorem tl_lo {z : Str} {p : Int} (h : 0 ≤ p) : (cutS z none (some p)).cps.toList = z.cps.toList.take p.toNat := by
  have h' : ¬ p < 0 := by omega
  show List.take (HT.sIx z.length z.length (some p) - 0) (List.drop 0 z.cps.toList) = _
  show List.take ((if p < 0 then (p + (z.length : Int)).toNat else min p.toNat z.length) - 0) (List.drop 0 z.cps.toList) = _
  rw [if_neg h', Nat.sub_zero, List.drop_zero, tl_len, ← List.take_eq_take_min]
theorem tl_hi {z : Str} {p : Int} (h : 0 ≤ p) : (cutS z (some p) none).cps.toList = z.cps.toList.drop p.toNat := by
  have h' : ¬ p < 0 := by omega
  show List.take (z.length - (if p < 0 then (p + (z.length : Int)).toNat else min p.toNat z.length)) (List.drop (if p < 0 then (p + (z.length : Int)).toNat else min p.toNat z.length) z.cps.toList) = _
  rw [if_neg h', tl_len]
  by_cases hp : p.toNat ≤ z.cps.toList.length
  · rw [Nat.min_eq_left hp, List.take_of_length_le]
    simp
  · rw [Nat.min_eq_right (by omega), List.drop_length, List.drop_eq_nil_of_le (by omega)]
    simp
theorem cl_lo {α : Type} {xs : List α} {p : Int} (h : 0 ≤ p) : cutL xs none (some p) = xs.take p.toNat := by
  have h' : ¬ p < 0 := by omega
  show List.take ((if p < 0 then (p + (xs.length : Int)).toNat else min p.toNat xs.length) - 0) (List.drop 0 xs) = _
  rw [if_neg h', Nat.sub_zero, List.drop_zero, ← List.take_eq_take_min]
theorem cl_hi {α : Type} {xs : List α} {p : Int} (h : 0 ≤ p) : cutL xs (some p) none = xs.drop p.toNat := by
  have h' : ¬ p < 0 := by omega
  show List.take (xs.length - (if p < 0 then (p + (xs.length : Int)).toNat else min p.toNat xs.length)) (List.drop (if p < 0 then (p + (xs.length : Int)).toNat else min p.toNat xs.length) xs) = _
  rw [if_neg h']
  by_cases hp : p.toNat ≤ xs.length
  · rw [Nat.min_eq_left hp, List.take_of_length_le]
    simp
  · rw [Nat.min_eq_right (by omega), List.drop_length, List.drop_eq_nil_of_le (by omega)]
    simp
theorem cl_mid {α : Type} {xs : List α} {p q : Int} (h : 0 ≤ p) (hq : p ≤ q) (hl : p ≤ xs.length) : cutL xs (some p) (some q) = (xs.drop p.toNat).take (q - p).toNat := by
  have h' : ¬ p < 0 := by omega
  have h2 : ¬ q < 0 := by omega
  show List.take ((if q < 0 then (q + (xs.length : Int)).toNat else min q.toNat xs.length) - (if p < 0 then (p + (xs.length : Int)).toNat else min p.toNat xs.length)) (List.drop (if p < 0 then (p + (xs.length : Int)).toNat else min p.toNat xs.length) xs) = _
  rw [if_neg h', if_neg h2, Nat.min_eq_left (by omega : p.toNat ≤ xs.length)]
  by_cases hp : q.toNat ≤ xs.length
  · rw [Nat.min_eq_left hp]; congr 1; omega
  · rw [Nat.min_eq_right (by omega), List.take_of_length_le, List.take_of_length_le] <;> (rw [List.length_drop]; omega)
theorem tl_join : ∀ zs : List Str, (Txt.join "" zs).cps.toList = (zs.map fun z => z.cps.toList).flatten := by
  intro zs
  show (Builtin.Str.glued "" zs).cps.toList = _
  rw [StrLaws.glued_eq_join]
  induction zs with
  | nil => rfl
  | cons x zs ih =>
    cases zs with
    | nil => simp [Str.join]
    | cons y zs =>
      show (x ++ "" ++ Str.join "" (y :: zs)).cps.toList = _
      rw [tl_app, tl_app, ih]
      have : (("" : String) : Str).cps.toList = [] := by decide +kernel
      show x.cps.toList ++ (Str.ofString "").cps.toList ++ _ = _
      rw [this]
      simp
/-- a small letter by its number -/
def ltr (i : Nat) : Str := ⟨#[97 + i]⟩
theorem tl_ltr (i : Nat) : (ltr i).cps.toList = [97 + i] := rfl
theorem abc_l : ("abcdefghijklmnopqrstuvwxyz" : Str).cps.toList = List.range' 97 26 := by decide +kernel
theorem i_str {st : Sto} {z : Str} {i : Int} (hz : z.length ≤ sizeLine) (h0 : 0 ≤ i) (h : i < z.length) : ∃ c, z.cps.toList[i.toNat]? = some c ∧ idxM st (.str z) (.int i) = some (.str ⟨#[c]⟩) := by
  have hl := tl_len z
  refine ⟨_, List.getElem?_eq_getElem (by omega), ?_⟩
  show (if z.length ≤ sizeLine then (atI z.cps.toList i).map fun c => Vl.str ⟨#[c]⟩ else none) = _
  rw [if_pos hz]
  unfold atI
  rw [ixN_ok h0 (by omega)]
  show Option.map _ (z.cps.toList[i.toNat]?) = _
  rw [List.getElem?_eq_getElem (by omega)]
  rfl
theorem i_abc {st : Sto} {i : Int} (h0 : 0 ≤ i) (h : i < 26) : idxM st (.str "abcdefghijklmnopqrstuvwxyz") (.int i) = some (.str (ltr i.toNat)) := by
  obtain ⟨c, hc, e⟩ := i_str (st := st) (z := "abcdefghijklmnopqrstuvwxyz") (by decide +kernel) h0 (by show i < (26 : Nat); exact h)
  rw [e, abc_l, List.getElem?_range'] at *
  · cases hc
    congr 2
    show (⟨#[97 + 1 * i.toNat]⟩ : Str) = ⟨#[97 + i.toNat]⟩
    rw [Nat.one_mul]
  · omega
theorem i_seq_ok {st : Sto} {xs : List Vl} {i : Int} (h0 : 0 ≤ i) (h : i < xs.length) : ∃ x, xs[i.toNat]? = some x ∧ idxM st (.lst xs) (.int i) = some x ∧ idxM st (.tup xs) (.int i) = some x := by
  have e : ∃ x, xs[i.toNat]? = some x := ⟨_, List.getElem?_eq_getElem (by omega)⟩
  obtain ⟨x, e⟩ := e
  refine ⟨x, e, ?_, ?_⟩
  · show atI xs i = _
    unfold atI
    rw [ixN_ok h0 h]
    exact e
  · show atI xs i = _
    unfold atI
    rw [ixN_ok h0 h]
    exact e
theorem l_lenL {st : Sto} {xs : List Vl} : bltM .len st [.lst xs] = some (.int xs.length) := rfl
theorem l_lenT {st : Sto} {xs : List Vl} : bltM .len st [.tup xs] = some (.int xs.length) := rfl
theorem l_lenS {st : Sto} {z : Str} (h : z.length ≤ sizeLine) : bltM .len st [.str z] = some (.int z.length) := by
  simp [bltM, lenM, h]
theorem l_lenB {st : Sto} {xs : List Vl} : bltM .len st [.bor xs] = some (.int xs.length) := rfl
theorem pick_use (ht : tb.lookup ("_law_take" : Str) = some g__law_take) (hk : tb.lookup ("_law_pick" : Str) = some g__law_pick) {i j : Nat} {xs : List Vl} {st : Sto} {P : Rt → Sto → Prop} (h : Dr st i j) (h1 : 0 < xs.length) (h2 : xs.length < 1000000) (hb : ∀ x ∈ xs, notBor x = true)
    (k : ∀ (x : Vl) (s : Sto), x ∈ xs → DS i j st s → P (.vl x) s) : Ev1 (callD tb cls fu (d + 2) "_law_pick" [.obj i, .lst xs]) st P := by
  rw [call_eq hk rfl (Nat.le_of_ble_eq_true rfl), ev_bnd]
  have hh : (tb.lookup ("_law_take" : Str)).isSome = true := by rw [ht]; rfl
  simp only [g__law_pick, l_lenL, hh, ev_bnd, ev_ret, s_cons, s_nil, s_nx, s_rt, s_ct, s_bk, ev_asg, ev_set, evE, evT, e_var, e_own, e_int, e_bl, e_str, e_non, e_gstr, e_gint, e_bin, e_idx, t_cmp, e_cmp, s_ite, s_ret, es_nil, es_cons, e_blt, e_tup, e_cal, t_nt, e_ite, t_ite, e_rev, e_atr, e_mkx, e_mkk, o_non, o_som, e_slc, e_fr, e_mko, f_cal, f_blt, s_retF, e_and, e_or, e_nt, e_neg, t_chn, e_chn, f_lst, e_isi, e_txt, s_par, i_seq, i_rng1, i_rng2, s_own, s_ins, s_app, s_setS, s_exp, s_for, s_frz, f_comp, f_slc, f_bin, f_disp, f_dnewK, c_non, c_som, t_var, t_idx, t_cal, t_blt, t_isi, t_bl, t_fr, t_txt, v_e, v_o, s_retO, s_pass, s_whl, ev_compF, ev_forB, endV_vl, endV_fr, ev_okV, ev_frozen, endF_fr, rtE_nx, rtE_rt, slOf_l, slOf_d, ownL_l, ownG_l, ownG_d, rtO_l, rtO_d, seqI_l, seqI_t, seqI_s, seqI_b, b_addI, b_subI, b_mulI, b_modI, b_fdivI, b_addS, b_addT, b_mulS, b_mulT, b_addLL, b_mulL, b_pow1018, c_ltI, c_leI, c_gtI, c_geI, c_eqI, c_neI, c_eqS, c_neS, c_ltS, c_leS, c_gtS, c_geS, tr_bl, tr_int, tr_non, l_abs, l_int, l_intb, intOf_i, strOf_s, toVl_l, toVl_d, x_if, x_map, x_none, x_some, xb_if, List.getElem?_cons_zero, List.getElem?_cons_succ, List.set_cons_zero, List.set_cons_succ, List.map_cons, List.map_nil, wipeE, st1_n, st1_x, st1_e, Option.some.injEq, Sl.v.injEq, Sl.l.injEq, Sl.d.injEq, Vl.int.injEq, Vl.bl.injEq, Vl.str.injEq, exists_eq_left', exists_eq_left, true_and, and_true, if_true, reduceIte, Bool.not_true, Bool.not_false, Bool.true_eq_false, Bool.false_eq_true, if_false, decide_eq_true_eq, Bool.not_eq_true', decide_true, decide_false, Int.reducePow, Int.reduceNeg, Int.reduceLT, Int.reduceLE, or_true, true_or, and_self, List.all_nil, List.all_cons, List.length_nil, List.length_cons, Nat.zero_le, Nat.zero_add, Nat.reduceAdd, Bool.and_true, Bool.true_and, Bool.and_self, exists_const, Nat.reduceBneDiff, Nat.reduceLeDiff, notBorI, notBorS, notBorB, notBorT, notBorL, notBorO, notBorN, notBorD, notBorE]
  refine take_use ht h (by omega) (by omega) fun q s q0 q1 D => ?_
  obtain ⟨x, hx, e, _⟩ := i_seq_ok (st := s) (xs := xs) q0 (by omega)
  have hm := List.mem_of_getElem? hx
  simp only [e, hb x hm, ev_bnd, ev_ret, s_cons, s_nil, s_nx, s_rt, s_ct, s_bk, ev_asg, ev_set, evE, evT, e_var, e_own, e_int, e_bl, e_str, e_non, e_gstr, e_gint, e_bin, e_idx, t_cmp, e_cmp, s_ite, s_ret, es_nil, es_cons, e_blt, e_tup, e_cal, t_nt, e_ite, t_ite, e_rev, e_atr, e_mkx, e_mkk, o_non, o_som, e_slc, e_fr, e_mko, f_cal, f_blt, s_retF, e_and, e_or, e_nt, e_neg, t_chn, e_chn, f_lst, e_isi, e_txt, s_par, i_seq, i_rng1, i_rng2, s_own, s_ins, s_app, s_setS, s_exp, s_for, s_frz, f_comp, f_slc, f_bin, f_disp, f_dnewK, c_non, c_som, t_var, t_idx, t_cal, t_blt, t_isi, t_bl, t_fr, t_txt, v_e, v_o, s_retO, s_pass, s_whl, ev_compF, ev_forB, endV_vl, endV_fr, ev_okV, ev_frozen, endF_fr, rtE_nx, rtE_rt, slOf_l, slOf_d, ownL_l, ownG_l, ownG_d, rtO_l, rtO_d, seqI_l, seqI_t, seqI_s, seqI_b, b_addI, b_subI, b_mulI, b_modI, b_fdivI, b_addS, b_addT, b_mulS, b_mulT, b_addLL, b_mulL, b_pow1018, c_ltI, c_leI, c_gtI, c_geI, c_eqI, c_neI, c_eqS, c_neS, c_ltS, c_leS, c_gtS, c_geS, tr_bl, tr_int, tr_non, l_abs, l_int, l_intb, intOf_i, strOf_s, toVl_l, toVl_d, x_if, x_map, x_none, x_some, xb_if, List.getElem?_cons_zero, List.getElem?_cons_succ, List.set_cons_zero, List.set_cons_succ, List.map_cons, List.map_nil, wipeE, st1_n, st1_x, st1_e, Option.some.injEq, Sl.v.injEq, Sl.l.injEq, Sl.d.injEq, Vl.int.injEq, Vl.bl.injEq, Vl.str.injEq, exists_eq_left', exists_eq_left, true_and, and_true, if_true, reduceIte, Bool.not_true, Bool.not_false, Bool.true_eq_false, Bool.false_eq_true, if_false, decide_eq_true_eq, Bool.not_eq_true', decide_true, decide_false, Int.reducePow, Int.reduceNeg, Int.reduceLT, Int.reduceLE, or_true, true_or, and_self, List.all_nil, List.all_cons, List.length_nil, List.length_cons, Nat.zero_le, Nat.zero_add, Nat.reduceAdd, Bool.and_true, Bool.true_and, Bool.and_self, exists_const, Nat.reduceBneDiff, Nat.reduceLeDiff, notBorI, notBorS, notBorB, notBorT, notBorL, notBorO, notBorN, notBorD, notBorE]
  exact k x s hm D
/-- a name: one to eight small letters -/
def Nm (z : Str) : Prop := 1 ≤ z.length ∧ z.length ≤ 8 ∧ ∀ c ∈ z.cps.toList, 97 ≤ c ∧ c ≤ 122
theorem Nm.asc {z : Str} (h : Nm z) : asc z = true := List.all_eq_true.mpr fun c hc => decide_eq_true (by have := h.2.2 c hc; omega)
theorem Nm.ok {z : Str} (h : Nm z) : strOk z = true := asc_strOk h.asc
theorem sz24 : sizeLine = 16777216 := rfl
end LG

set_option Elab.async false
set_option linter.all false
set_option maxRecDepth 100000
set_option maxHeartbeats 4000000
/-! P5: drawn names. -/
namespace LG
open PySem L2 PyProof.Rows
open PySem.PyData (strOk)
variable {tb : Tb} {cls : List Str} {fu d : Nat}
theorem vStrs_map : ∀ zs : List Str, vStrs (zs.map .str) = some zs
  | [] => rfl
  | z :: zs => by
    show (vStrs (zs.map .str)).map (z :: ·) = _
    rw [vStrs_map zs]; rfl
theorem ev_comp_map {β : Type} {f : Vl → M (Option Vl)} {st : Sto} (v w : β → Vl) {xs : List β} {P : List Vl → Sto → Prop} (h : ∀ b ∈ xs, Ev1 (f (v b)) st (fun o s => o = some (w b) ∧ s = st)) (k : P (xs.map w) st) : Ev1 (compL f (xs.map v)) st P :=
  (ev_pu (comp_map fun b hb => pu_ev (h b hb))).mpr k
theorem ev_comp_filter {β : Type} {f : Vl → M (Option Vl)} {st : Sto} (v w : β → Vl) (p : β → Bool) {xs : List β} {P : List Vl → Sto → Prop} (h : ∀ b ∈ xs, Ev1 (f (v b)) st (fun o s => o = (if p b = true then some (w b) else none) ∧ s = st)) (k : P ((xs.filter p).map w) st) : Ev1 (compL f (xs.map v)) st P :=
  (ev_pu (comp_filter fun b hb => pu_ev (h b hb))).mpr k
theorem nodup_map {α β : Type} {f : α → β} {xs : List α} (h : xs.Nodup) (hf : ∀ a ∈ xs, ∀ b ∈ xs, f a = f b → a = b) : (xs.map f).Nodup := by
  rw [List.nodup_iff_pairwise_ne, List.pairwise_map]
  exact List.Pairwise.imp_of_mem (fun {a b} ha hb hne e => hne (hf a ha b hb e)) (List.nodup_iff_pairwise_ne.mp h)
theorem flat1 {α β : Type} (f : α → β) : ∀ xs : List α, (xs.map fun x => [f x]).flatten = xs.map f
  | [] => rfl
  | x :: xs => by
    have := flat1 f xs
    simp only [List.map_cons, List.flatten_cons, this, List.singleton_append]
theorem tl_ofN (l : List Nat) (z : Str) (h : z.cps.toList = l) : z.length = l.length := by rw [tl_len, h]
theorem names_use (ht : tb.lookup ("_law_take" : Str) = some g__law_take) (hk : tb.lookup ("_law_names" : Str) = some g__law_names) {i j : Nat} {n : Nat} {st : Sto} {P : Rt → Sto → Prop} (h : Dr st i j) (h2 : n ≤ 8)
    (k : ∀ (zs : List Str) (s : Sto), zs.length = n → zs.Nodup → (∀ z ∈ zs, Nm z) → DS i j st s → P (.fr (.lst (zs.map .str))) s) : Ev1 (callD tb cls fu (d + 2) "_law_names" [.obj i, .int n]) st P := by
  rw [call_eq hk rfl (Nat.le_of_ble_eq_true rfl), ev_bnd]
  have hh : (tb.lookup ("_law_take" : Str)).isSome = true := by rw [ht]; rfl
  have hn : ((n : Int) < 9) = True := eq_true (by omega)
  simp only [g__law_names, hh, ev_bnd, ev_ret, s_cons, s_nil, s_nx, s_rt, s_ct, s_bk, ev_asg, ev_set, evE, evT, e_var, e_own, e_int, e_bl, e_str, e_non, e_gstr, e_gint, e_bin, e_idx, t_cmp, e_cmp, s_ite, s_ret, es_nil, es_cons, e_blt, e_tup, e_cal, t_nt, e_ite, t_ite, e_rev, e_atr, e_mkx, e_mkk, o_non, o_som, e_slc, e_fr, e_mko, f_cal, f_blt, s_retF, e_and, e_or, e_nt, e_neg, t_chn, e_chn, f_lst, e_isi, e_txt, s_par, i_seq, i_rng1, i_rng2, s_own, s_ins, s_app, s_setS, s_exp, s_for, s_frz, f_comp, f_slc, f_bin, f_disp, f_dnewK, c_non, c_som, t_var, t_idx, t_cal, t_blt, t_isi, t_bl, t_fr, t_txt, v_e, v_o, s_retO, s_pass, s_whl, ev_compF, ev_forB, endV_vl, endV_fr, ev_okV, ev_frozen, endF_fr, rtE_nx, rtE_rt, slOf_l, slOf_d, ownL_l, ownG_l, ownG_d, rtO_l, rtO_d, seqI_l, seqI_t, seqI_s, seqI_b, b_addI, b_subI, b_mulI, b_modI, b_fdivI, b_addS, b_addT, b_mulS, b_mulT, b_addLL, b_mulL, b_pow1018, c_ltI, c_leI, c_gtI, c_geI, c_eqI, c_neI, c_eqS, c_neS, c_ltS, c_leS, c_gtS, c_geS, tr_bl, tr_int, tr_non, l_abs, l_int, l_intb, intOf_i, strOf_s, toVl_l, toVl_d, x_if, x_map, x_none, x_some, xb_if, List.getElem?_cons_zero, List.getElem?_cons_succ, List.set_cons_zero, List.set_cons_succ, List.map_cons, List.map_nil, wipeE, st1_n, st1_x, st1_e, Option.some.injEq, Sl.v.injEq, Sl.l.injEq, Sl.d.injEq, Vl.int.injEq, Vl.bl.injEq, Vl.str.injEq, exists_eq_left', exists_eq_left, true_and, and_true, if_true, reduceIte, Bool.not_true, Bool.not_false, Bool.true_eq_false, Bool.false_eq_true, if_false, decide_eq_true_eq, Bool.not_eq_true', decide_true, decide_false, Int.reducePow, Int.reduceNeg, Int.reduceLT, Int.reduceLE, or_true, true_or, and_self, List.all_nil, List.all_cons, List.length_nil, List.length_cons, Nat.zero_le, Nat.zero_add, Nat.reduceAdd, Bool.and_true, Bool.true_and, Bool.and_self, exists_const, Nat.reduceBneDiff, Nat.reduceLeDiff, notBorI, notBorS, notBorB, notBorT, notBorL, notBorO, notBorN, notBorD, notBorE]
  refine take_use ht h (by omega) (by omega) fun q s q0 q1 D => ?_
  simp only [hn, hh, ev_bnd, ev_ret, s_cons, s_nil, s_nx, s_rt, s_ct, s_bk, ev_asg, ev_set, evE, evT, e_var, e_own, e_int, e_bl, e_str, e_non, e_gstr, e_gint, e_bin, e_idx, t_cmp, e_cmp, s_ite, s_ret, es_nil, es_cons, e_blt, e_tup, e_cal, t_nt, e_ite, t_ite, e_rev, e_atr, e_mkx, e_mkk, o_non, o_som, e_slc, e_fr, e_mko, f_cal, f_blt, s_retF, e_and, e_or, e_nt, e_neg, t_chn, e_chn, f_lst, e_isi, e_txt, s_par, i_seq, i_rng1, i_rng2, s_own, s_ins, s_app, s_setS, s_exp, s_for, s_frz, f_comp, f_slc, f_bin, f_disp, f_dnewK, c_non, c_som, t_var, t_idx, t_cal, t_blt, t_isi, t_bl, t_fr, t_txt, v_e, v_o, s_retO, s_pass, s_whl, ev_compF, ev_forB, endV_vl, endV_fr, ev_okV, ev_frozen, endF_fr, rtE_nx, rtE_rt, slOf_l, slOf_d, ownL_l, ownG_l, ownG_d, rtO_l, rtO_d, seqI_l, seqI_t, seqI_s, seqI_b, b_addI, b_subI, b_mulI, b_modI, b_fdivI, b_addS, b_addT, b_mulS, b_mulT, b_addLL, b_mulL, b_pow1018, c_ltI, c_leI, c_gtI, c_geI, c_eqI, c_neI, c_eqS, c_neS, c_ltS, c_leS, c_gtS, c_geS, tr_bl, tr_int, tr_non, l_abs, l_int, l_intb, intOf_i, strOf_s, toVl_l, toVl_d, x_if, x_map, x_none, x_some, xb_if, List.getElem?_cons_zero, List.getElem?_cons_succ, List.set_cons_zero, List.set_cons_succ, List.map_cons, List.map_nil, wipeE, st1_n, st1_x, st1_e, Option.some.injEq, Sl.v.injEq, Sl.l.injEq, Sl.d.injEq, Vl.int.injEq, Vl.bl.injEq, Vl.str.injEq, exists_eq_left', exists_eq_left, true_and, and_true, if_true, reduceIte, Bool.not_true, Bool.not_false, Bool.true_eq_false, Bool.false_eq_true, if_false, decide_eq_true_eq, Bool.not_eq_true', decide_true, decide_false, Int.reducePow, Int.reduceNeg, Int.reduceLT, Int.reduceLE, or_true, true_or, and_self, List.all_nil, List.all_cons, List.length_nil, List.length_cons, Nat.zero_le, Nat.zero_add, Nat.reduceAdd, Bool.and_true, Bool.true_and, Bool.and_self, exists_const, Nat.reduceBneDiff, Nat.reduceLeDiff, notBorI, notBorS, notBorB, notBorT, notBorL, notBorO, notBorN, notBorD, notBorE, t_and, t_or]
  refine take_use ht D.dr (by omega) (by omega) fun q' s' _ _ D' => ?_
  simp only [ev_bnd, ev_ret, s_cons, s_nil, s_nx, s_rt, s_ct, s_bk, ev_asg, ev_set, evE, evT, e_var, e_own, e_int, e_bl, e_str, e_non, e_gstr, e_gint, e_bin, e_idx, t_cmp, e_cmp, s_ite, s_ret, es_nil, es_cons, e_blt, e_tup, e_cal, t_nt, e_ite, t_ite, e_rev, e_atr, e_mkx, e_mkk, o_non, o_som, e_slc, e_fr, e_mko, f_cal, f_blt, s_retF, e_and, e_or, e_nt, e_neg, t_chn, e_chn, f_lst, e_isi, e_txt, s_par, i_seq, i_rng1, i_rng2, s_own, s_ins, s_app, s_setS, s_exp, s_for, s_frz, f_comp, f_slc, f_bin, f_disp, f_dnewK, c_non, c_som, t_var, t_idx, t_cal, t_blt, t_isi, t_bl, t_fr, t_txt, v_e, v_o, s_retO, s_pass, s_whl, ev_compF, ev_forB, endV_vl, endV_fr, ev_okV, ev_frozen, endF_fr, rtE_nx, rtE_rt, slOf_l, slOf_d, ownL_l, ownG_l, ownG_d, rtO_l, rtO_d, seqI_l, seqI_t, seqI_s, seqI_b, b_addI, b_subI, b_mulI, b_modI, b_fdivI, b_addS, b_addT, b_mulS, b_mulT, b_addLL, b_mulL, b_pow1018, c_ltI, c_leI, c_gtI, c_geI, c_eqI, c_neI, c_eqS, c_neS, c_ltS, c_leS, c_gtS, c_geS, tr_bl, tr_int, tr_non, l_abs, l_int, l_intb, intOf_i, strOf_s, toVl_l, toVl_d, x_if, x_map, x_none, x_some, xb_if, List.getElem?_cons_zero, List.getElem?_cons_succ, List.set_cons_zero, List.set_cons_succ, List.map_cons, List.map_nil, wipeE, st1_n, st1_x, st1_e, Option.some.injEq, Sl.v.injEq, Sl.l.injEq, Sl.d.injEq, Vl.int.injEq, Vl.bl.injEq, Vl.str.injEq, exists_eq_left', exists_eq_left, true_and, and_true, if_true, reduceIte, Bool.not_true, Bool.not_false, Bool.true_eq_false, Bool.false_eq_true, if_false, decide_eq_true_eq, Bool.not_eq_true', decide_true, decide_false, Int.reducePow, Int.reduceNeg, Int.reduceLT, Int.reduceLE, or_true, true_or, and_self, List.all_nil, List.all_cons, List.length_nil, List.length_cons, Nat.zero_le, Nat.zero_add, Nat.reduceAdd, Bool.and_true, Bool.true_and, Bool.and_self, exists_const, Nat.reduceBneDiff, Nat.reduceLeDiff, notBorI, notBorS, notBorB, notBorT, notBorL, notBorO, notBorN, notBorD, notBorE]
  have D := D.trans D'
  clear D'
  have sz := sz24
  by_cases hq : q' = 0
  · simp only [hq, ev_bnd, ev_ret, s_cons, s_nil, s_nx, s_rt, s_ct, s_bk, ev_asg, ev_set, evE, evT, e_var, e_own, e_int, e_bl, e_str, e_non, e_gstr, e_gint, e_bin, e_idx, t_cmp, e_cmp, s_ite, s_ret, es_nil, es_cons, e_blt, e_tup, e_cal, t_nt, e_ite, t_ite, e_rev, e_atr, e_mkx, e_mkk, o_non, o_som, e_slc, e_fr, e_mko, f_cal, f_blt, s_retF, e_and, e_or, e_nt, e_neg, t_chn, e_chn, f_lst, e_isi, e_txt, s_par, i_seq, i_rng1, i_rng2, s_own, s_ins, s_app, s_setS, s_exp, s_for, s_frz, f_comp, f_slc, f_bin, f_disp, f_dnewK, c_non, c_som, t_var, t_idx, t_cal, t_blt, t_isi, t_bl, t_fr, t_txt, v_e, v_o, s_retO, s_pass, s_whl, ev_compF, ev_forB, endV_vl, endV_fr, ev_okV, ev_frozen, endF_fr, rtE_nx, rtE_rt, slOf_l, slOf_d, ownL_l, ownG_l, ownG_d, rtO_l, rtO_d, seqI_l, seqI_t, seqI_s, seqI_b, b_addI, b_subI, b_mulI, b_modI, b_fdivI, b_addS, b_addT, b_mulS, b_mulT, b_addLL, b_mulL, b_pow1018, c_ltI, c_leI, c_gtI, c_geI, c_eqI, c_neI, c_eqS, c_neS, c_ltS, c_leS, c_gtS, c_geS, tr_bl, tr_int, tr_non, l_abs, l_int, l_intb, intOf_i, strOf_s, toVl_l, toVl_d, x_if, x_map, x_none, x_some, xb_if, List.getElem?_cons_zero, List.getElem?_cons_succ, List.set_cons_zero, List.set_cons_succ, List.map_cons, List.map_nil, wipeE, st1_n, st1_x, st1_e, Option.some.injEq, Sl.v.injEq, Sl.l.injEq, Sl.d.injEq, Vl.int.injEq, Vl.bl.injEq, Vl.str.injEq, exists_eq_left', exists_eq_left, true_and, and_true, if_true, reduceIte, Bool.not_true, Bool.not_false, Bool.true_eq_false, Bool.false_eq_true, if_false, decide_eq_true_eq, Bool.not_eq_true', decide_true, decide_false, Int.reducePow, Int.reduceNeg, Int.reduceLT, Int.reduceLE, or_true, true_or, and_self, List.all_nil, List.all_cons, List.length_nil, List.length_cons, Nat.zero_le, Nat.zero_add, Nat.reduceAdd, Bool.and_true, Bool.true_and, Bool.and_self, exists_const, Nat.reduceBneDiff, Nat.reduceLeDiff, notBorI, notBorS, notBorB, notBorT, notBorL, notBorO, notBorN, notBorD, notBorE]
    refine ⟨⟨by omega, by omega⟩, by simp [sz]; omega, ?_⟩
    refine ev_comp_map (fun i : Nat => Vl.int (0 + i)) (fun i => .str (Txt.mul (ltr q.toNat) (1 + i))) (fun b hb => ?_) ?_
    · have hb : b < n := by simpa using hb
      simp only [i_abc q0 q1, ev_bnd, ev_ret, s_cons, s_nil, s_nx, s_rt, s_ct, s_bk, ev_asg, ev_set, evE, evT, e_var, e_own, e_int, e_bl, e_str, e_non, e_gstr, e_gint, e_bin, e_idx, t_cmp, e_cmp, s_ite, s_ret, es_nil, es_cons, e_blt, e_tup, e_cal, t_nt, e_ite, t_ite, e_rev, e_atr, e_mkx, e_mkk, o_non, o_som, e_slc, e_fr, e_mko, f_cal, f_blt, s_retF, e_and, e_or, e_nt, e_neg, t_chn, e_chn, f_lst, e_isi, e_txt, s_par, i_seq, i_rng1, i_rng2, s_own, s_ins, s_app, s_setS, s_exp, s_for, s_frz, f_comp, f_slc, f_bin, f_disp, f_dnewK, c_non, c_som, t_var, t_idx, t_cal, t_blt, t_isi, t_bl, t_fr, t_txt, v_e, v_o, s_retO, s_pass, s_whl, ev_compF, ev_forB, endV_vl, endV_fr, ev_okV, ev_frozen, endF_fr, rtE_nx, rtE_rt, slOf_l, slOf_d, ownL_l, ownG_l, ownG_d, rtO_l, rtO_d, seqI_l, seqI_t, seqI_s, seqI_b, b_addI, b_subI, b_mulI, b_modI, b_fdivI, b_addS, b_addT, b_mulS, b_mulT, b_addLL, b_mulL, b_pow1018, c_ltI, c_leI, c_gtI, c_geI, c_eqI, c_neI, c_eqS, c_neS, c_ltS, c_leS, c_gtS, c_geS, tr_bl, tr_int, tr_non, l_abs, l_int, l_intb, intOf_i, strOf_s, toVl_l, toVl_d, x_if, x_map, x_none, x_some, xb_if, List.getElem?_cons_zero, List.getElem?_cons_succ, List.set_cons_zero, List.set_cons_succ, List.map_cons, List.map_nil, wipeE, st1_n, st1_x, st1_e, Option.some.injEq, Sl.v.injEq, Sl.l.injEq, Sl.d.injEq, Vl.int.injEq, Vl.bl.injEq, Vl.str.injEq, exists_eq_left', exists_eq_left, true_and, and_true, if_true, reduceIte, Bool.not_true, Bool.not_false, Bool.true_eq_false, Bool.false_eq_true, if_false, decide_eq_true_eq, Bool.not_eq_true', decide_true, decide_false, Int.reducePow, Int.reduceNeg, Int.reduceLT, Int.reduceLE, or_true, true_or, and_self, List.all_nil, List.all_cons, List.length_nil, List.length_cons, Nat.zero_le, Nat.zero_add, Nat.reduceAdd, Bool.and_true, Bool.true_and, Bool.and_self, exists_const, Nat.reduceBneDiff, Nat.reduceLeDiff, notBorI, notBorS, notBorB, notBorT, notBorL, notBorO, notBorN, notBorD, notBorE]
      refine ⟨⟨by omega, by omega, by rw [tl_len, tl_ltr]; simp⟩, ?_⟩
      rw [Int.zero_add]
    · have tl : ∀ b : Nat, (Txt.mul (ltr q.toNat) (1 + b)).cps.toList = List.replicate (1 + b) (97 + q.toNat) := fun b => by
        have := mul_one_list (97 + q.toNat) (1 + (b : Int))
        rw [show (1 + (b : Int)).toNat = 1 + b by omega] at this
        exact this
      have := k ((List.range n).map fun b : Nat => Txt.mul (ltr q.toNat) (1 + b)) s' (by simp) ?_ ?_ D
      · simpa only [List.map_map, Function.comp_def, Int.toNat_natCast] using this
      · refine nodup_map List.nodup_range fun a _ b _ e => ?_
        have := congrArg (fun z : Str => z.cps.toList.length) e
        simp only [tl, List.length_replicate] at this
        omega
      · intro z hz
        obtain ⟨b, hb, rfl⟩ := List.mem_map.mp hz
        have hb : b < n := by simpa using hb
        refine ⟨by rw [tl_len, tl, List.length_replicate]; omega, by rw [tl_len, tl, List.length_replicate]; omega, fun c hc => ?_⟩
        rw [tl] at hc
        have := (List.mem_replicate.mp hc).2
        omega
  · simp only [hq, ev_bnd, ev_ret, s_cons, s_nil, s_nx, s_rt, s_ct, s_bk, ev_asg, ev_set, evE, evT, e_var, e_own, e_int, e_bl, e_str, e_non, e_gstr, e_gint, e_bin, e_idx, t_cmp, e_cmp, s_ite, s_ret, es_nil, es_cons, e_blt, e_tup, e_cal, t_nt, e_ite, t_ite, e_rev, e_atr, e_mkx, e_mkk, o_non, o_som, e_slc, e_fr, e_mko, f_cal, f_blt, s_retF, e_and, e_or, e_nt, e_neg, t_chn, e_chn, f_lst, e_isi, e_txt, s_par, i_seq, i_rng1, i_rng2, s_own, s_ins, s_app, s_setS, s_exp, s_for, s_frz, f_comp, f_slc, f_bin, f_disp, f_dnewK, c_non, c_som, t_var, t_idx, t_cal, t_blt, t_isi, t_bl, t_fr, t_txt, v_e, v_o, s_retO, s_pass, s_whl, ev_compF, ev_forB, endV_vl, endV_fr, ev_okV, ev_frozen, endF_fr, rtE_nx, rtE_rt, slOf_l, slOf_d, ownL_l, ownG_l, ownG_d, rtO_l, rtO_d, seqI_l, seqI_t, seqI_s, seqI_b, b_addI, b_subI, b_mulI, b_modI, b_fdivI, b_addS, b_addT, b_mulS, b_mulT, b_addLL, b_mulL, b_pow1018, c_ltI, c_leI, c_gtI, c_geI, c_eqI, c_neI, c_eqS, c_neS, c_ltS, c_leS, c_gtS, c_geS, tr_bl, tr_int, tr_non, l_abs, l_int, l_intb, intOf_i, strOf_s, toVl_l, toVl_d, x_if, x_map, x_none, x_some, xb_if, List.getElem?_cons_zero, List.getElem?_cons_succ, List.set_cons_zero, List.set_cons_succ, List.map_cons, List.map_nil, wipeE, st1_n, st1_x, st1_e, Option.some.injEq, Sl.v.injEq, Sl.l.injEq, Sl.d.injEq, Vl.int.injEq, Vl.bl.injEq, Vl.str.injEq, exists_eq_left', exists_eq_left, true_and, and_true, if_true, reduceIte, Bool.not_true, Bool.not_false, Bool.true_eq_false, Bool.false_eq_true, if_false, decide_eq_true_eq, Bool.not_eq_true', decide_true, decide_false, Int.reducePow, Int.reduceNeg, Int.reduceLT, Int.reduceLE, or_true, true_or, and_self, List.all_nil, List.all_cons, List.length_nil, List.length_cons, Nat.zero_le, Nat.zero_add, Nat.reduceAdd, Bool.and_true, Bool.true_and, Bool.and_self, exists_const, Nat.reduceBneDiff, Nat.reduceLeDiff, notBorI, notBorS, notBorB, notBorT, notBorL, notBorO, notBorN, notBorD, notBorE]
    refine take_use ht D.dr (by omega) (by omega) fun l s2 l0 l1 D2 => ?_
    simp only [ev_bnd, ev_ret, s_cons, s_nil, s_nx, s_rt, s_ct, s_bk, ev_asg, ev_set, evE, evT, e_var, e_own, e_int, e_bl, e_str, e_non, e_gstr, e_gint, e_bin, e_idx, t_cmp, e_cmp, s_ite, s_ret, es_nil, es_cons, e_blt, e_tup, e_cal, t_nt, e_ite, t_ite, e_rev, e_atr, e_mkx, e_mkk, o_non, o_som, e_slc, e_fr, e_mko, f_cal, f_blt, s_retF, e_and, e_or, e_nt, e_neg, t_chn, e_chn, f_lst, e_isi, e_txt, s_par, i_seq, i_rng1, i_rng2, s_own, s_ins, s_app, s_setS, s_exp, s_for, s_frz, f_comp, f_slc, f_bin, f_disp, f_dnewK, c_non, c_som, t_var, t_idx, t_cal, t_blt, t_isi, t_bl, t_fr, t_txt, v_e, v_o, s_retO, s_pass, s_whl, ev_compF, ev_forB, endV_vl, endV_fr, ev_okV, ev_frozen, endF_fr, rtE_nx, rtE_rt, slOf_l, slOf_d, ownL_l, ownG_l, ownG_d, rtO_l, rtO_d, seqI_l, seqI_t, seqI_s, seqI_b, b_addI, b_subI, b_mulI, b_modI, b_fdivI, b_addS, b_addT, b_mulS, b_mulT, b_addLL, b_mulL, b_pow1018, c_ltI, c_leI, c_gtI, c_geI, c_eqI, c_neI, c_eqS, c_neS, c_ltS, c_leS, c_gtS, c_geS, tr_bl, tr_int, tr_non, l_abs, l_int, l_intb, intOf_i, strOf_s, toVl_l, toVl_d, x_if, x_map, x_none, x_some, xb_if, List.getElem?_cons_zero, List.getElem?_cons_succ, List.set_cons_zero, List.set_cons_succ, List.map_cons, List.map_nil, wipeE, st1_n, st1_x, st1_e, Option.some.injEq, Sl.v.injEq, Sl.l.injEq, Sl.d.injEq, Vl.int.injEq, Vl.bl.injEq, Vl.str.injEq, exists_eq_left', exists_eq_left, true_and, and_true, if_true, reduceIte, Bool.not_true, Bool.not_false, Bool.true_eq_false, Bool.false_eq_true, if_false, decide_eq_true_eq, Bool.not_eq_true', decide_true, decide_false, Int.reducePow, Int.reduceNeg, Int.reduceLT, Int.reduceLE, or_true, true_or, and_self, List.all_nil, List.all_cons, List.length_nil, List.length_cons, Nat.zero_le, Nat.zero_add, Nat.reduceAdd, Bool.and_true, Bool.true_and, Bool.and_self, exists_const, Nat.reduceBneDiff, Nat.reduceLeDiff, notBorI, notBorS, notBorB, notBorT, notBorL, notBorO, notBorN, notBorD, notBorE]
    refine take_use ht D2.dr (by omega) (by omega) fun p s3 p0 p1 D3 => ?_
    simp only [ev_bnd, ev_ret, s_cons, s_nil, s_nx, s_rt, s_ct, s_bk, ev_asg, ev_set, evE, evT, e_var, e_own, e_int, e_bl, e_str, e_non, e_gstr, e_gint, e_bin, e_idx, t_cmp, e_cmp, s_ite, s_ret, es_nil, es_cons, e_blt, e_tup, e_cal, t_nt, e_ite, t_ite, e_rev, e_atr, e_mkx, e_mkk, o_non, o_som, e_slc, e_fr, e_mko, f_cal, f_blt, s_retF, e_and, e_or, e_nt, e_neg, t_chn, e_chn, f_lst, e_isi, e_txt, s_par, i_seq, i_rng1, i_rng2, s_own, s_ins, s_app, s_setS, s_exp, s_for, s_frz, f_comp, f_slc, f_bin, f_disp, f_dnewK, c_non, c_som, t_var, t_idx, t_cal, t_blt, t_isi, t_bl, t_fr, t_txt, v_e, v_o, s_retO, s_pass, s_whl, ev_compF, ev_forB, endV_vl, endV_fr, ev_okV, ev_frozen, endF_fr, rtE_nx, rtE_rt, slOf_l, slOf_d, ownL_l, ownG_l, ownG_d, rtO_l, rtO_d, seqI_l, seqI_t, seqI_s, seqI_b, b_addI, b_subI, b_mulI, b_modI, b_fdivI, b_addS, b_addT, b_mulS, b_mulT, b_addLL, b_mulL, b_pow1018, c_ltI, c_leI, c_gtI, c_geI, c_eqI, c_neI, c_eqS, c_neS, c_ltS, c_leS, c_gtS, c_geS, tr_bl, tr_int, tr_non, l_abs, l_int, l_intb, intOf_i, strOf_s, toVl_l, toVl_d, x_if, x_map, x_none, x_some, xb_if, List.getElem?_cons_zero, List.getElem?_cons_succ, List.set_cons_zero, List.set_cons_succ, List.map_cons, List.map_nil, wipeE, st1_n, st1_x, st1_e, Option.some.injEq, Sl.v.injEq, Sl.l.injEq, Sl.d.injEq, Vl.int.injEq, Vl.bl.injEq, Vl.str.injEq, exists_eq_left', exists_eq_left, true_and, and_true, if_true, reduceIte, Bool.not_true, Bool.not_false, Bool.true_eq_false, Bool.false_eq_true, if_false, decide_eq_true_eq, Bool.not_eq_true', decide_true, decide_false, Int.reducePow, Int.reduceNeg, Int.reduceLT, Int.reduceLE, or_true, true_or, and_self, List.all_nil, List.all_cons, List.length_nil, List.length_cons, Nat.zero_le, Nat.zero_add, Nat.reduceAdd, Bool.and_true, Bool.true_and, Bool.and_self, exists_const, Nat.reduceBneDiff, Nat.reduceLeDiff, notBorI, notBorS, notBorB, notBorT, notBorL, notBorO, notBorN, notBorD, notBorE]
    have D := D.trans (D2.trans D3)
    clear D2 D3
    refine ⟨⟨by omega, by omega⟩, by simp [sz]; omega, ?_⟩
    refine ev_comp_map (fun i : Nat => Vl.int (0 + i)) (fun i : Nat => .str (ltr ((q + 7 * (0 + (i : Int))) % 26).toNat)) (fun b hb => ?_) ?_
    · simp only [ev_bnd, ev_ret, s_cons, s_nil, s_nx, s_rt, s_ct, s_bk, ev_asg, ev_set, evE, evT, e_var, e_own, e_int, e_bl, e_str, e_non, e_gstr, e_gint, e_bin, e_idx, t_cmp, e_cmp, s_ite, s_ret, es_nil, es_cons, e_blt, e_tup, e_cal, t_nt, e_ite, t_ite, e_rev, e_atr, e_mkx, e_mkk, o_non, o_som, e_slc, e_fr, e_mko, f_cal, f_blt, s_retF, e_and, e_or, e_nt, e_neg, t_chn, e_chn, f_lst, e_isi, e_txt, s_par, i_seq, i_rng1, i_rng2, s_own, s_ins, s_app, s_setS, s_exp, s_for, s_frz, f_comp, f_slc, f_bin, f_disp, f_dnewK, c_non, c_som, t_var, t_idx, t_cal, t_blt, t_isi, t_bl, t_fr, t_txt, v_e, v_o, s_retO, s_pass, s_whl, ev_compF, ev_forB, endV_vl, endV_fr, ev_okV, ev_frozen, endF_fr, rtE_nx, rtE_rt, slOf_l, slOf_d, ownL_l, ownG_l, ownG_d, rtO_l, rtO_d, seqI_l, seqI_t, seqI_s, seqI_b, b_addI, b_subI, b_mulI, b_modI, b_fdivI, b_addS, b_addT, b_mulS, b_mulT, b_addLL, b_mulL, b_pow1018, c_ltI, c_leI, c_gtI, c_geI, c_eqI, c_neI, c_eqS, c_neS, c_ltS, c_leS, c_gtS, c_geS, tr_bl, tr_int, tr_non, l_abs, l_int, l_intb, intOf_i, strOf_s, toVl_l, toVl_d, x_if, x_map, x_none, x_some, xb_if, List.getElem?_cons_zero, List.getElem?_cons_succ, List.set_cons_zero, List.set_cons_succ, List.map_cons, List.map_nil, wipeE, st1_n, st1_x, st1_e, Option.some.injEq, Sl.v.injEq, Sl.l.injEq, Sl.d.injEq, Vl.int.injEq, Vl.bl.injEq, Vl.str.injEq, exists_eq_left', exists_eq_left, true_and, and_true, if_true, reduceIte, Bool.not_true, Bool.not_false, Bool.true_eq_false, Bool.false_eq_true, if_false, decide_eq_true_eq, Bool.not_eq_true', decide_true, decide_false, Int.reducePow, Int.reduceNeg, Int.reduceLT, Int.reduceLE, or_true, true_or, and_self, List.all_nil, List.all_cons, List.length_nil, List.length_cons, Nat.zero_le, Nat.zero_add, Nat.reduceAdd, Bool.and_true, Bool.true_and, Bool.and_self, exists_const, Nat.reduceBneDiff, Nat.reduceLeDiff, notBorI, notBorS, notBorB, notBorT, notBorL, notBorO, notBorN, notBorD, notBorE]
      rw [i_abc (Int.emod_nonneg _ (by decide)) (Int.emod_lt_of_pos _ (by decide))]
      simp only [ev_bnd, ev_ret, s_cons, s_nil, s_nx, s_rt, s_ct, s_bk, ev_asg, ev_set, evE, evT, e_var, e_own, e_int, e_bl, e_str, e_non, e_gstr, e_gint, e_bin, e_idx, t_cmp, e_cmp, s_ite, s_ret, es_nil, es_cons, e_blt, e_tup, e_cal, t_nt, e_ite, t_ite, e_rev, e_atr, e_mkx, e_mkk, o_non, o_som, e_slc, e_fr, e_mko, f_cal, f_blt, s_retF, e_and, e_or, e_nt, e_neg, t_chn, e_chn, f_lst, e_isi, e_txt, s_par, i_seq, i_rng1, i_rng2, s_own, s_ins, s_app, s_setS, s_exp, s_for, s_frz, f_comp, f_slc, f_bin, f_disp, f_dnewK, c_non, c_som, t_var, t_idx, t_cal, t_blt, t_isi, t_bl, t_fr, t_txt, v_e, v_o, s_retO, s_pass, s_whl, ev_compF, ev_forB, endV_vl, endV_fr, ev_okV, ev_frozen, endF_fr, rtE_nx, rtE_rt, slOf_l, slOf_d, ownL_l, ownG_l, ownG_d, rtO_l, rtO_d, seqI_l, seqI_t, seqI_s, seqI_b, b_addI, b_subI, b_mulI, b_modI, b_fdivI, b_addS, b_addT, b_mulS, b_mulT, b_addLL, b_mulL, b_pow1018, c_ltI, c_leI, c_gtI, c_geI, c_eqI, c_neI, c_eqS, c_neS, c_ltS, c_leS, c_gtS, c_geS, tr_bl, tr_int, tr_non, l_abs, l_int, l_intb, intOf_i, strOf_s, toVl_l, toVl_d, x_if, x_map, x_none, x_some, xb_if, List.getElem?_cons_zero, List.getElem?_cons_succ, List.set_cons_zero, List.set_cons_succ, List.map_cons, List.map_nil, wipeE, st1_n, st1_x, st1_e, Option.some.injEq, Sl.v.injEq, Sl.l.injEq, Sl.d.injEq, Vl.int.injEq, Vl.bl.injEq, Vl.str.injEq, exists_eq_left', exists_eq_left, true_and, and_true, if_true, reduceIte, Bool.not_true, Bool.not_false, Bool.true_eq_false, Bool.false_eq_true, if_false, decide_eq_true_eq, Bool.not_eq_true', decide_true, decide_false, Int.reducePow, Int.reduceNeg, Int.reduceLT, Int.reduceLE, or_true, true_or, and_self, List.all_nil, List.all_cons, List.length_nil, List.length_cons, Nat.zero_le, Nat.zero_add, Nat.reduceAdd, Bool.and_true, Bool.true_and, Bool.and_self, exists_const, Nat.reduceBneDiff, Nat.reduceLeDiff, notBorI, notBorS, notBorB, notBorT, notBorL, notBorO, notBorN, notBorD, notBorE]
    · have ej : ∀ s, txtM .join s (.str "") [.lst ((List.range (1 + l).toNat).map fun i : Nat => Vl.str (ltr ((q + 7 * (0 + (i : Int))) % 26).toNat))] = some (.str (Txt.join "" ((List.range (1 + l).toNat).map fun i : Nat => (ltr ((q + 7 * (0 + (i : Int))) % 26).toNat)))) := fun s => by
        have e := vStrs_map ((List.range (1 + l).toNat).map fun i : Nat => (ltr ((q + 7 * (0 + (i : Int))) % 26).toNat))
        rw [List.map_map] at e
        have e : vStrs ((List.range (1 + l).toNat).map fun i : Nat => Vl.str (ltr ((q + 7 * (0 + (i : Int))) % 26).toNat)) = _ := e
        simp only [txtM, asSeq, asList, e]
        rw [if_pos]
        rw [List.map_map]
        have : (List.map ((fun x => x.length) ∘ fun i : Nat => (ltr ((q + 7 * (0 + (i : Int))) % 26).toNat)) (List.range (1 + l).toNat)) = List.replicate (1 + l).toNat 1 := by
          rw [List.eq_replicate_iff]
          refine ⟨by simp, fun b hb => ?_⟩
          obtain ⟨a, _, rfl⟩ := List.mem_map.mp hb
          rfl
        rw [this]
        have e0 : ("" : Str).length = 0 := by decide +kernel
        rw [e0]
        simp
        omega
      simp only [ej, ev_bnd, ev_ret, s_cons, s_nil, s_nx, s_rt, s_ct, s_bk, ev_asg, ev_set, evE, evT, e_var, e_own, e_int, e_bl, e_str, e_non, e_gstr, e_gint, e_bin, e_idx, t_cmp, e_cmp, s_ite, s_ret, es_nil, es_cons, e_blt, e_tup, e_cal, t_nt, e_ite, t_ite, e_rev, e_atr, e_mkx, e_mkk, o_non, o_som, e_slc, e_fr, e_mko, f_cal, f_blt, s_retF, e_and, e_or, e_nt, e_neg, t_chn, e_chn, f_lst, e_isi, e_txt, s_par, i_seq, i_rng1, i_rng2, s_own, s_ins, s_app, s_setS, s_exp, s_for, s_frz, f_comp, f_slc, f_bin, f_disp, f_dnewK, c_non, c_som, t_var, t_idx, t_cal, t_blt, t_isi, t_bl, t_fr, t_txt, v_e, v_o, s_retO, s_pass, s_whl, ev_compF, ev_forB, endV_vl, endV_fr, ev_okV, ev_frozen, endF_fr, rtE_nx, rtE_rt, slOf_l, slOf_d, ownL_l, ownG_l, ownG_d, rtO_l, rtO_d, seqI_l, seqI_t, seqI_s, seqI_b, b_addI, b_subI, b_mulI, b_modI, b_fdivI, b_addS, b_addT, b_mulS, b_mulT, b_addLL, b_mulL, b_pow1018, c_ltI, c_leI, c_gtI, c_geI, c_eqI, c_neI, c_eqS, c_neS, c_ltS, c_leS, c_gtS, c_geS, tr_bl, tr_int, tr_non, l_abs, l_int, l_intb, intOf_i, strOf_s, toVl_l, toVl_d, x_if, x_map, x_none, x_some, xb_if, List.getElem?_cons_zero, List.getElem?_cons_succ, List.set_cons_zero, List.set_cons_succ, List.map_cons, List.map_nil, wipeE, st1_n, st1_x, st1_e, Option.some.injEq, Sl.v.injEq, Sl.l.injEq, Sl.d.injEq, Vl.int.injEq, Vl.bl.injEq, Vl.str.injEq, exists_eq_left', exists_eq_left, true_and, and_true, if_true, reduceIte, Bool.not_true, Bool.not_false, Bool.true_eq_false, Bool.false_eq_true, if_false, decide_eq_true_eq, Bool.not_eq_true', decide_true, decide_false, Int.reducePow, Int.reduceNeg, Int.reduceLT, Int.reduceLE, or_true, true_or, and_self, List.all_nil, List.all_cons, List.length_nil, List.length_cons, Nat.zero_le, Nat.zero_add, Nat.reduceAdd, Bool.and_true, Bool.true_and, Bool.and_self, exists_const, Nat.reduceBneDiff, Nat.reduceLeDiff, notBorI, notBorS, notBorB, notBorT, notBorL, notBorO, notBorN, notBorD, notBorE]
      generalize hbs : Txt.join "" ((List.range (1 + l).toNat).map fun i : Nat => (ltr ((q + 7 * (0 + (i : Int))) % 26).toNat)) = bs
      have hbl : bs.cps.toList = (List.range (1 + l).toNat).map fun i : Nat => 97 + ((q + 7 * (0 + (i : Int))) % 26).toNat := by
        rw [← hbs, tl_join, List.map_map]
        show (List.map (fun i : Nat => [97 + ((q + 7 * (0 + (i : Int))) % 26).toNat]) _).flatten = _
        exact flat1 _ _
      have hb1 : bs.length = (1 + l).toNat := by rw [tl_len, hbl]; simp
      refine ⟨⟨by omega, by omega⟩, by simp [sz]; omega, ?_⟩
      refine ev_comp_map (fun i : Nat => Vl.int (0 + i)) (fun i : Nat => .str (ltr ((q + 5 + 3 * (0 + (i : Int))) % 26).toNat)) (fun b hb => ?_) ?_
      · simp only [ev_bnd, ev_ret, s_cons, s_nil, s_nx, s_rt, s_ct, s_bk, ev_asg, ev_set, evE, evT, e_var, e_own, e_int, e_bl, e_str, e_non, e_gstr, e_gint, e_bin, e_idx, t_cmp, e_cmp, s_ite, s_ret, es_nil, es_cons, e_blt, e_tup, e_cal, t_nt, e_ite, t_ite, e_rev, e_atr, e_mkx, e_mkk, o_non, o_som, e_slc, e_fr, e_mko, f_cal, f_blt, s_retF, e_and, e_or, e_nt, e_neg, t_chn, e_chn, f_lst, e_isi, e_txt, s_par, i_seq, i_rng1, i_rng2, s_own, s_ins, s_app, s_setS, s_exp, s_for, s_frz, f_comp, f_slc, f_bin, f_disp, f_dnewK, c_non, c_som, t_var, t_idx, t_cal, t_blt, t_isi, t_bl, t_fr, t_txt, v_e, v_o, s_retO, s_pass, s_whl, ev_compF, ev_forB, endV_vl, endV_fr, ev_okV, ev_frozen, endF_fr, rtE_nx, rtE_rt, slOf_l, slOf_d, ownL_l, ownG_l, ownG_d, rtO_l, rtO_d, seqI_l, seqI_t, seqI_s, seqI_b, b_addI, b_subI, b_mulI, b_modI, b_fdivI, b_addS, b_addT, b_mulS, b_mulT, b_addLL, b_mulL, b_pow1018, c_ltI, c_leI, c_gtI, c_geI, c_eqI, c_neI, c_eqS, c_neS, c_ltS, c_leS, c_gtS, c_geS, tr_bl, tr_int, tr_non, l_abs, l_int, l_intb, intOf_i, strOf_s, toVl_l, toVl_d, x_if, x_map, x_none, x_some, xb_if, List.getElem?_cons_zero, List.getElem?_cons_succ, List.set_cons_zero, List.set_cons_succ, List.map_cons, List.map_nil, wipeE, st1_n, st1_x, st1_e, Option.some.injEq, Sl.v.injEq, Sl.l.injEq, Sl.d.injEq, Vl.int.injEq, Vl.bl.injEq, Vl.str.injEq, exists_eq_left', exists_eq_left, true_and, and_true, if_true, reduceIte, Bool.not_true, Bool.not_false, Bool.true_eq_false, Bool.false_eq_true, if_false, decide_eq_true_eq, Bool.not_eq_true', decide_true, decide_false, Int.reducePow, Int.reduceNeg, Int.reduceLT, Int.reduceLE, or_true, true_or, and_self, List.all_nil, List.all_cons, List.length_nil, List.length_cons, Nat.zero_le, Nat.zero_add, Nat.reduceAdd, Bool.and_true, Bool.true_and, Bool.and_self, exists_const, Nat.reduceBneDiff, Nat.reduceLeDiff, notBorI, notBorS, notBorB, notBorT, notBorL, notBorO, notBorN, notBorD, notBorE]
        rw [i_abc (Int.emod_nonneg _ (by decide)) (Int.emod_lt_of_pos _ (by decide))]
        simp only [ev_bnd, ev_ret, s_cons, s_nil, s_nx, s_rt, s_ct, s_bk, ev_asg, ev_set, evE, evT, e_var, e_own, e_int, e_bl, e_str, e_non, e_gstr, e_gint, e_bin, e_idx, t_cmp, e_cmp, s_ite, s_ret, es_nil, es_cons, e_blt, e_tup, e_cal, t_nt, e_ite, t_ite, e_rev, e_atr, e_mkx, e_mkk, o_non, o_som, e_slc, e_fr, e_mko, f_cal, f_blt, s_retF, e_and, e_or, e_nt, e_neg, t_chn, e_chn, f_lst, e_isi, e_txt, s_par, i_seq, i_rng1, i_rng2, s_own, s_ins, s_app, s_setS, s_exp, s_for, s_frz, f_comp, f_slc, f_bin, f_disp, f_dnewK, c_non, c_som, t_var, t_idx, t_cal, t_blt, t_isi, t_bl, t_fr, t_txt, v_e, v_o, s_retO, s_pass, s_whl, ev_compF, ev_forB, endV_vl, endV_fr, ev_okV, ev_frozen, endF_fr, rtE_nx, rtE_rt, slOf_l, slOf_d, ownL_l, ownG_l, ownG_d, rtO_l, rtO_d, seqI_l, seqI_t, seqI_s, seqI_b, b_addI, b_subI, b_mulI, b_modI, b_fdivI, b_addS, b_addT, b_mulS, b_mulT, b_addLL, b_mulL, b_pow1018, c_ltI, c_leI, c_gtI, c_geI, c_eqI, c_neI, c_eqS, c_neS, c_ltS, c_leS, c_gtS, c_geS, tr_bl, tr_int, tr_non, l_abs, l_int, l_intb, intOf_i, strOf_s, toVl_l, toVl_d, x_if, x_map, x_none, x_some, xb_if, List.getElem?_cons_zero, List.getElem?_cons_succ, List.set_cons_zero, List.set_cons_succ, List.map_cons, List.map_nil, wipeE, st1_n, st1_x, st1_e, Option.some.injEq, Sl.v.injEq, Sl.l.injEq, Sl.d.injEq, Vl.int.injEq, Vl.bl.injEq, Vl.str.injEq, exists_eq_left', exists_eq_left, true_and, and_true, if_true, reduceIte, Bool.not_true, Bool.not_false, Bool.true_eq_false, Bool.false_eq_true, if_false, decide_eq_true_eq, Bool.not_eq_true', decide_true, decide_false, Int.reducePow, Int.reduceNeg, Int.reduceLT, Int.reduceLE, or_true, true_or, and_self, List.all_nil, List.all_cons, List.length_nil, List.length_cons, Nat.zero_le, Nat.zero_add, Nat.reduceAdd, Bool.and_true, Bool.true_and, Bool.and_self, exists_const, Nat.reduceBneDiff, Nat.reduceLeDiff, notBorI, notBorS, notBorB, notBorT, notBorL, notBorO, notBorN, notBorD, notBorE]
      · refine ⟨by simp [sz]; omega, ?_⟩
        have es : ∀ st lo hi, slcM st (.str bs) lo hi = some (.str (cutS bs lo hi)) := fun st lo hi => by
          show (if bs.length ≤ sizeLine then some (Vl.str (cutS bs lo hi)) else none) = _
          rw [if_pos (by omega)]
        have t1 := tl_lo (z := bs) p0
        have t2 := tl_hi (z := bs) (p := p + 1) (by omega)
        refine ev_comp_map (fun i : Nat => Vl.str (ltr ((q + 5 + 3 * (0 + (i : Int))) % 26).toNat)) (fun i : Nat => .str (cutS bs none (some p) ++ ltr ((q + 5 + 3 * (0 + (i : Int))) % 26).toNat ++ cutS bs (some (p + 1)) none)) (fun b hb => ?_) ?_
        · simp only [es, ev_bnd, ev_ret, s_cons, s_nil, s_nx, s_rt, s_ct, s_bk, ev_asg, ev_set, evE, evT, e_var, e_own, e_int, e_bl, e_str, e_non, e_gstr, e_gint, e_bin, e_idx, t_cmp, e_cmp, s_ite, s_ret, es_nil, es_cons, e_blt, e_tup, e_cal, t_nt, e_ite, t_ite, e_rev, e_atr, e_mkx, e_mkk, o_non, o_som, e_slc, e_fr, e_mko, f_cal, f_blt, s_retF, e_and, e_or, e_nt, e_neg, t_chn, e_chn, f_lst, e_isi, e_txt, s_par, i_seq, i_rng1, i_rng2, s_own, s_ins, s_app, s_setS, s_exp, s_for, s_frz, f_comp, f_slc, f_bin, f_disp, f_dnewK, c_non, c_som, t_var, t_idx, t_cal, t_blt, t_isi, t_bl, t_fr, t_txt, v_e, v_o, s_retO, s_pass, s_whl, ev_compF, ev_forB, endV_vl, endV_fr, ev_okV, ev_frozen, endF_fr, rtE_nx, rtE_rt, slOf_l, slOf_d, ownL_l, ownG_l, ownG_d, rtO_l, rtO_d, seqI_l, seqI_t, seqI_s, seqI_b, b_addI, b_subI, b_mulI, b_modI, b_fdivI, b_addS, b_addT, b_mulS, b_mulT, b_addLL, b_mulL, b_pow1018, c_ltI, c_leI, c_gtI, c_geI, c_eqI, c_neI, c_eqS, c_neS, c_ltS, c_leS, c_gtS, c_geS, tr_bl, tr_int, tr_non, l_abs, l_int, l_intb, intOf_i, strOf_s, toVl_l, toVl_d, x_if, x_map, x_none, x_some, xb_if, List.getElem?_cons_zero, List.getElem?_cons_succ, List.set_cons_zero, List.set_cons_succ, List.map_cons, List.map_nil, wipeE, st1_n, st1_x, st1_e, Option.some.injEq, Sl.v.injEq, Sl.l.injEq, Sl.d.injEq, Vl.int.injEq, Vl.bl.injEq, Vl.str.injEq, exists_eq_left', exists_eq_left, true_and, and_true, if_true, reduceIte, Bool.not_true, Bool.not_false, Bool.true_eq_false, Bool.false_eq_true, if_false, decide_eq_true_eq, Bool.not_eq_true', decide_true, decide_false, Int.reducePow, Int.reduceNeg, Int.reduceLT, Int.reduceLE, or_true, true_or, and_self, List.all_nil, List.all_cons, List.length_nil, List.length_cons, Nat.zero_le, Nat.zero_add, Nat.reduceAdd, Bool.and_true, Bool.true_and, Bool.and_self, exists_const, Nat.reduceBneDiff, Nat.reduceLeDiff, notBorI, notBorS, notBorB, notBorT, notBorL, notBorO, notBorN, notBorD, notBorE]
          refine ⟨?_, ?_⟩
          · rw [tl_len, tl_len, t1, tl_ltr, List.length_take, ← tl_len]; simp only [List.length_cons, List.length_nil]; omega
          · rw [Str.length_append, tl_len, tl_len, tl_len, t1, t2, tl_ltr, List.length_take, List.length_drop, ← tl_len]; simp only [List.length_cons, List.length_nil]; omega
        · have tl : ∀ i : Nat, (cutS bs none (some p) ++ ltr ((q + 5 + 3 * (0 + (i : Int))) % 26).toNat ++ cutS bs (some (p + 1)) none).cps.toList = bs.cps.toList.take p.toNat ++ [97 + ((q + 5 + 3 * (0 + (i : Int))) % 26).toNat] ++ bs.cps.toList.drop (p + 1).toNat := fun i => by
            rw [tl_app, tl_app, t1, t2, tl_ltr]
          have := k ((List.range n).map fun i : Nat => cutS bs none (some p) ++ ltr ((q + 5 + 3 * (0 + (i : Int))) % 26).toNat ++ cutS bs (some (p + 1)) none) s3 (by simp) ?_ ?_ D
          · simpa only [List.map_map, Function.comp_def, Int.toNat_natCast] using this
          · refine nodup_map List.nodup_range fun a ha b hb e => ?_
            have ha : a < n := by simpa using ha
            have hb : b < n := by simpa using hb
            have := congrArg (fun z : Str => z.cps.toList) e
            simp only [tl] at this
            have := List.append_cancel_right (List.append_cancel_right (bs := [97 + ((q + 5 + 3 * (0 + (a : Int))) % 26).toNat] ++ bs.cps.toList.drop (p + 1).toNat) (as := []) rfl ▸ this)
            have := List.append_cancel_left this
            simp at this
            omega
          · intro z hz
            obtain ⟨b, hb, rfl⟩ := List.mem_map.mp hz
            have hL : (cutS bs none (some p) ++ ltr ((q + 5 + 3 * (0 + (b : Int))) % 26).toNat ++ cutS bs (some (p + 1)) none).length = (1 + l).toNat := by
              rw [tl_len, tl, List.length_append, List.length_append, List.length_take, List.length_drop, ← tl_len, hb1]
              simp only [List.length_cons, List.length_nil]; omega
            refine ⟨by omega, by omega, fun c hc => ?_⟩
            rw [tl] at hc
            have hbc : ∀ c ∈ bs.cps.toList, 97 ≤ c ∧ c ≤ 122 := fun c hc => by
              rw [hbl] at hc
              obtain ⟨x, _, rfl⟩ := List.mem_map.mp hc
              have := Int.emod_nonneg (q + 7 * (0 + (x : Int))) (by decide : (26 : Int) ≠ 0)
              have := Int.emod_lt_of_pos (q + 7 * (0 + (x : Int))) (by decide : (0 : Int) < 26)
              omega
            rcases List.mem_append.mp hc with hc | hc
            · rcases List.mem_append.mp hc with hc | hc
              · exact hbc c (List.mem_of_mem_take hc)
              · have hc : c = 97 + ((q + 5 + 3 * (0 + (b : Int))) % 26).toNat := by simpa using hc
                have := Int.emod_nonneg (q + 5 + 3 * (0 + (b : Int))) (by decide : (26 : Int) ≠ 0)
                have := Int.emod_lt_of_pos (q + 5 + 3 * (0 + (b : Int))) (by decide : (0 : Int) < 26)
                omega
            · exact hbc c (List.mem_of_mem_drop hc)
end LG

set_option Elab.async false
set_option linter.all false
set_option maxRecDepth 100000
set_option maxHeartbeats 4000000
/-! P6: the begin of draws, a drawn order. -/
namespace LG
open PySem L2 PyProof.Rows
open PySem.PyData (strOk)
variable {tb : Tb} {cls : List Str} {fu d : Nat}
theorem eq_nilL {st : Sto} {xs : List Vl} {ds : List PyData} (h : toPys xs = some ds) (g : PyData.canLayAll0 ds = true) (e : PyData.depthAll ds ≤ 63) : eqM st (.lst xs) (.lst []) = some xs.isEmpty := by
  have h1 : toPyS st (.lst xs) = some (.list ds) := by
    show (toPys xs).map PyData.list = _
    rw [h]; rfl
  have h2 : toPyS st (.lst []) = some (.list []) := rfl
  unfold eqM
  rw [h1, h2]
  have s1 : shp (.list ds) = true := by
    show (PyData.canLayAll0 ds && decide (PyData.depthAll ds + 1 ≤ 64)) = true
    rw [g, Bool.true_and]
    exact decide_eq_true (by omega)
  have s2 : shp (.list []) = true := by decide +kernel
  simp only [s1, s2, Bool.and_self, if_true]
  cases xs with
  | nil => cases h; rfl
  | cons x xs =>
    have : ∃ a b, ds = a :: b := by
      have h : (match toPy x, toPys xs with
        | some d, some ds => some (d :: ds)
        | _, _ => none) = some ds := h
      split at h
      · cases h; exact ⟨_, _, rfl⟩
      · cases h
    obtain ⟨a, b, rfl⟩ := this
    rfl
theorem toPys_int : ∀ xs : List Int, toPys (xs.map .int) = some (xs.map .int) ∧ PyData.canLayAll0 (xs.map .int) = true ∧ PyData.depthAll (xs.map .int) = 0
  | [] => ⟨rfl, rfl, rfl⟩
  | x :: xs => by
    obtain ⟨a, b, c⟩ := toPys_int xs
    exact ⟨by simp [toPys, toPy, a], by simp [PyData.canLayAll0, PyData.canLay0, b], by simp [PyData.depthAll, PyData.depth, c]⟩
theorem toPys_str : ∀ xs : List Str, (∀ x ∈ xs, strOk x = true) → toPys (xs.map .str) = some (xs.map .str) ∧ PyData.canLayAll0 (xs.map .str) = true ∧ PyData.depthAll (xs.map .str) = 0
  | [], _ => ⟨rfl, rfl, rfl⟩
  | x :: xs, h => by
    obtain ⟨a, b, c⟩ := toPys_str xs fun y hy => h y (List.mem_cons_of_mem _ hy)
    have := h x (List.mem_cons_self ..)
    exact ⟨by simp [toPys, toPy, a], by simp [PyData.canLayAll0, PyData.canLay0, b, this], by simp [PyData.depthAll, PyData.depth, c]⟩
theorem c_eqNilI {st : Sto} {xs : List Int} : cmpA .eq st (.lst (xs.map .int)) (.lst []) = some xs.isEmpty := by
  obtain ⟨a, b, c⟩ := toPys_int xs
  exact (cA (o := .eq) (eq_nilL a b (by omega))).trans (by simp)
theorem c_eqNilS {st : Sto} {xs : List Str} (h : ∀ x ∈ xs, strOk x = true) : cmpA .eq st (.lst (xs.map .str)) (.lst []) = some xs.isEmpty := by
  obtain ⟨a, b, c⟩ := toPys_str xs h
  exact (cA (o := .eq) (eq_nilL a b (by omega))).trans (by simp)
theorem c_neNilS {st : Sto} {xs : List Str} (h : ∀ x ∈ xs, strOk x = true) : cmpA .ne st (.lst (xs.map .str)) (.lst []) = some !xs.isEmpty := by
  obtain ⟨a, b, c⟩ := toPys_str xs h
  refine cA ?_
  show (eqM st (.lst (xs.map .str)) (.lst [])).map not = _
  rw [eq_nilL a b (by omega)]
  simp
theorem bF_addLL {st : Sto} {x y : List Vl} : binF .add st (.lst x) (.lst y) = if x.length + y.length ≤ sizeLine then some (.lst (x ++ y)) else none := rfl
theorem begin_use (hk : tb.lookup ("_law_begin" : Str) = some g__law_begin) {ns : List Int} {st : Sto} {P : Rt → Sto → Prop}
    (k : ∀ (cs : List Int), cs ≠ [] → cs.length ≤ 64 → (∀ c ∈ cs, 0 ≤ c) → P (.fr (.dk [(.inr "cells", .obj st.length), (.inr "at", .int 0), (.inr "mix", .int 1)])) (st ++ [.lst (cs.map .int)])) : Ev1 (callD tb cls fu (d + 1) "_law_begin" [.scr (ns.map .int)]) st P := by
  rw [call_eq hk rfl (Nat.le_of_ble_eq_true rfl), ev_bnd]
  have hs : slcM st (.scr (ns.map .int)) none (some 63) = some (.lst ((ns.take 63).map .int)) := by
    show some (Vl.lst (cutL (ns.map .int) none (some 63))) = _
    rw [cl_lo (by decide), List.map_take]
    rfl
  have sz := sz24
  have ed : putAll [] [(.inr "cells", .obj st.length), (.inr "at", .int 0), (.inr "mix", .int 1)] = [(.inr "cells", .obj st.length), (.inr "at", .int 0), (.inr "mix", .int 1)] := by
    simp [putAll, putD, nCA, nCM, nAM]
  simp only [g__law_begin, hs, ev_bnd, ev_ret, s_cons, s_nil, s_nx, s_rt, s_ct, s_bk, ev_asg, ev_set, evE, evT, e_var, e_own, e_int, e_bl, e_str, e_non, e_gstr, e_gint, e_bin, e_idx, t_cmp, e_cmp, s_ite, s_ret, es_nil, es_cons, e_blt, e_tup, e_cal, t_nt, e_ite, t_ite, e_rev, e_atr, e_mkx, e_mkk, o_non, o_som, e_slc, e_fr, e_mko, f_cal, f_blt, s_retF, e_and, e_or, e_nt, e_neg, t_chn, e_chn, f_lst, e_isi, e_txt, s_par, i_seq, i_rng1, i_rng2, s_own, s_ins, s_app, s_setS, s_exp, s_for, s_frz, f_comp, f_slc, f_bin, f_disp, f_dnewK, c_non, c_som, t_var, t_idx, t_cal, t_blt, t_isi, t_bl, t_fr, t_txt, v_e, v_o, s_retO, s_pass, s_whl, ev_compF, ev_forB, endV_vl, endV_fr, ev_okV, ev_frozen, endF_fr, rtE_nx, rtE_rt, slOf_l, slOf_d, ownL_l, ownG_l, ownG_d, rtO_l, rtO_d, seqI_l, seqI_t, seqI_s, seqI_b, b_addI, b_subI, b_mulI, b_modI, b_fdivI, b_addS, b_addT, b_mulS, b_mulT, b_addLL, b_mulL, b_pow1018, c_ltI, c_leI, c_gtI, c_geI, c_eqI, c_neI, c_eqS, c_neS, c_ltS, c_leS, c_gtS, c_geS, tr_bl, tr_int, tr_non, l_abs, l_int, l_intb, intOf_i, strOf_s, toVl_l, toVl_d, x_if, x_map, x_none, x_some, xb_if, List.getElem?_cons_zero, List.getElem?_cons_succ, List.set_cons_zero, List.set_cons_succ, List.map_cons, List.map_nil, wipeE, st1_n, st1_x, st1_e, Option.some.injEq, Sl.v.injEq, Sl.l.injEq, Sl.d.injEq, Vl.int.injEq, Vl.bl.injEq, Vl.str.injEq, exists_eq_left', exists_eq_left, true_and, and_true, if_true, reduceIte, Bool.not_true, Bool.not_false, Bool.true_eq_false, Bool.false_eq_true, if_false, decide_eq_true_eq, Bool.not_eq_true', decide_true, decide_false, Int.reducePow, Int.reduceNeg, Int.reduceLT, Int.reduceLE, or_true, true_or, and_self, List.all_nil, List.all_cons, List.length_nil, List.length_cons, Nat.zero_le, Nat.zero_add, Nat.reduceAdd, Bool.and_true, Bool.true_and, Bool.and_self, exists_const, Nat.reduceBneDiff, Nat.reduceLeDiff, notBorI, notBorS, notBorB, notBorT, notBorL, notBorO, notBorN, notBorD, notBorE]
  refine ⟨by simp [sz]; omega, ?_⟩
  refine ev_comp_map Vl.int (fun i => .int (if i < 0 then -i else i)) (fun b hb => ?_) ?_
  · simp only [ev_bnd, ev_ret, s_cons, s_nil, s_nx, s_rt, s_ct, s_bk, ev_asg, ev_set, evE, evT, e_var, e_own, e_int, e_bl, e_str, e_non, e_gstr, e_gint, e_bin, e_idx, t_cmp, e_cmp, s_ite, s_ret, es_nil, es_cons, e_blt, e_tup, e_cal, t_nt, e_ite, t_ite, e_rev, e_atr, e_mkx, e_mkk, o_non, o_som, e_slc, e_fr, e_mko, f_cal, f_blt, s_retF, e_and, e_or, e_nt, e_neg, t_chn, e_chn, f_lst, e_isi, e_txt, s_par, i_seq, i_rng1, i_rng2, s_own, s_ins, s_app, s_setS, s_exp, s_for, s_frz, f_comp, f_slc, f_bin, f_disp, f_dnewK, c_non, c_som, t_var, t_idx, t_cal, t_blt, t_isi, t_bl, t_fr, t_txt, v_e, v_o, s_retO, s_pass, s_whl, ev_compF, ev_forB, endV_vl, endV_fr, ev_okV, ev_frozen, endF_fr, rtE_nx, rtE_rt, slOf_l, slOf_d, ownL_l, ownG_l, ownG_d, rtO_l, rtO_d, seqI_l, seqI_t, seqI_s, seqI_b, b_addI, b_subI, b_mulI, b_modI, b_fdivI, b_addS, b_addT, b_mulS, b_mulT, b_addLL, b_mulL, b_pow1018, c_ltI, c_leI, c_gtI, c_geI, c_eqI, c_neI, c_eqS, c_neS, c_ltS, c_leS, c_gtS, c_geS, tr_bl, tr_int, tr_non, l_abs, l_int, l_intb, intOf_i, strOf_s, toVl_l, toVl_d, x_if, x_map, x_none, x_some, xb_if, List.getElem?_cons_zero, List.getElem?_cons_succ, List.set_cons_zero, List.set_cons_succ, List.map_cons, List.map_nil, wipeE, st1_n, st1_x, st1_e, Option.some.injEq, Sl.v.injEq, Sl.l.injEq, Sl.d.injEq, Vl.int.injEq, Vl.bl.injEq, Vl.str.injEq, exists_eq_left', exists_eq_left, true_and, and_true, if_true, reduceIte, Bool.not_true, Bool.not_false, Bool.true_eq_false, Bool.false_eq_true, if_false, decide_eq_true_eq, Bool.not_eq_true', decide_true, decide_false, Int.reducePow, Int.reduceNeg, Int.reduceLT, Int.reduceLE, or_true, true_or, and_self, List.all_nil, List.all_cons, List.length_nil, List.length_cons, Nat.zero_le, Nat.zero_add, Nat.reduceAdd, Bool.and_true, Bool.true_and, Bool.and_self, exists_const, Nat.reduceBneDiff, Nat.reduceLeDiff, notBorI, notBorS, notBorB, notBorT, notBorL, notBorO, notBorN, notBorD, notBorE]
  · have em : (ns.take 63).map (fun i => Vl.int (if i < 0 then -i else i)) = ((ns.take 63).map fun i => if i < 0 then -i else i).map .int := by rw [List.map_map]; rfl
    rw [em]
    generalize hcs : ((ns.take 63).map fun i => if i < 0 then -i else i) = cs
    have hl : cs.length ≤ 63 := by rw [← hcs, List.length_map, List.length_take]; omega
    have hp : ∀ c ∈ cs, 0 ≤ c := fun c hc => by
      rw [← hcs] at hc
      obtain ⟨x, _, rfl⟩ := List.mem_map.mp hc
      split <;> omega
    simp only [c_eqNilI, ev_bnd, ev_ret, s_cons, s_nil, s_nx, s_rt, s_ct, s_bk, ev_asg, ev_set, evE, evT, e_var, e_own, e_int, e_bl, e_str, e_non, e_gstr, e_gint, e_bin, e_idx, t_cmp, e_cmp, s_ite, s_ret, es_nil, es_cons, e_blt, e_tup, e_cal, t_nt, e_ite, t_ite, e_rev, e_atr, e_mkx, e_mkk, o_non, o_som, e_slc, e_fr, e_mko, f_cal, f_blt, s_retF, e_and, e_or, e_nt, e_neg, t_chn, e_chn, f_lst, e_isi, e_txt, s_par, i_seq, i_rng1, i_rng2, s_own, s_ins, s_app, s_setS, s_exp, s_for, s_frz, f_comp, f_slc, f_bin, f_disp, f_dnewK, c_non, c_som, t_var, t_idx, t_cal, t_blt, t_isi, t_bl, t_fr, t_txt, v_e, v_o, s_retO, s_pass, s_whl, ev_compF, ev_forB, endV_vl, endV_fr, ev_okV, ev_frozen, endF_fr, rtE_nx, rtE_rt, slOf_l, slOf_d, ownL_l, ownG_l, ownG_d, rtO_l, rtO_d, seqI_l, seqI_t, seqI_s, seqI_b, b_addI, b_subI, b_mulI, b_modI, b_fdivI, b_addS, b_addT, b_mulS, b_mulT, b_addLL, b_mulL, b_pow1018, c_ltI, c_leI, c_gtI, c_geI, c_eqI, c_neI, c_eqS, c_neS, c_ltS, c_leS, c_gtS, c_geS, tr_bl, tr_int, tr_non, l_abs, l_int, l_intb, intOf_i, strOf_s, toVl_l, toVl_d, x_if, x_map, x_none, x_some, xb_if, List.getElem?_cons_zero, List.getElem?_cons_succ, List.set_cons_zero, List.set_cons_succ, List.map_cons, List.map_nil, wipeE, st1_n, st1_x, st1_e, Option.some.injEq, Sl.v.injEq, Sl.l.injEq, Sl.d.injEq, Vl.int.injEq, Vl.bl.injEq, Vl.str.injEq, exists_eq_left', exists_eq_left, true_and, and_true, if_true, reduceIte, Bool.not_true, Bool.not_false, Bool.true_eq_false, Bool.false_eq_true, if_false, decide_eq_true_eq, Bool.not_eq_true', decide_true, decide_false, Int.reducePow, Int.reduceNeg, Int.reduceLT, Int.reduceLE, or_true, true_or, and_self, List.all_nil, List.all_cons, List.length_nil, List.length_cons, Nat.zero_le, Nat.zero_add, Nat.reduceAdd, Bool.and_true, Bool.true_and, Bool.and_self, exists_const, Nat.reduceBneDiff, Nat.reduceLeDiff, notBorI, notBorS, notBorB, notBorT, notBorL, notBorO, notBorN, notBorD, notBorE]
    refine ⟨by rw [sz]; decide, ?_⟩
    cases hc : cs.isEmpty with
    | true =>
      have hc : cs = [] := by simpa using hc
      subst hc
      simp only [ev_bnd, ev_ret, s_cons, s_nil, s_nx, s_rt, s_ct, s_bk, ev_asg, ev_set, evE, evT, e_var, e_own, e_int, e_bl, e_str, e_non, e_gstr, e_gint, e_bin, e_idx, t_cmp, e_cmp, s_ite, s_ret, es_nil, es_cons, e_blt, e_tup, e_cal, t_nt, e_ite, t_ite, e_rev, e_atr, e_mkx, e_mkk, o_non, o_som, e_slc, e_fr, e_mko, f_cal, f_blt, s_retF, e_and, e_or, e_nt, e_neg, t_chn, e_chn, f_lst, e_isi, e_txt, s_par, i_seq, i_rng1, i_rng2, s_own, s_ins, s_app, s_setS, s_exp, s_for, s_frz, f_comp, f_slc, f_bin, f_disp, f_dnewK, c_non, c_som, t_var, t_idx, t_cal, t_blt, t_isi, t_bl, t_fr, t_txt, v_e, v_o, s_retO, s_pass, s_whl, ev_compF, ev_forB, endV_vl, endV_fr, ev_okV, ev_frozen, endF_fr, rtE_nx, rtE_rt, slOf_l, slOf_d, ownL_l, ownG_l, ownG_d, rtO_l, rtO_d, seqI_l, seqI_t, seqI_s, seqI_b, b_addI, b_subI, b_mulI, b_modI, b_fdivI, b_addS, b_addT, b_mulS, b_mulT, b_addLL, b_mulL, b_pow1018, c_ltI, c_leI, c_gtI, c_geI, c_eqI, c_neI, c_eqS, c_neS, c_ltS, c_leS, c_gtS, c_geS, tr_bl, tr_int, tr_non, l_abs, l_int, l_intb, intOf_i, strOf_s, toVl_l, toVl_d, x_if, x_map, x_none, x_some, xb_if, List.getElem?_cons_zero, List.getElem?_cons_succ, List.set_cons_zero, List.set_cons_succ, List.map_cons, List.map_nil, wipeE, st1_n, st1_x, st1_e, Option.some.injEq, Sl.v.injEq, Sl.l.injEq, Sl.d.injEq, Vl.int.injEq, Vl.bl.injEq, Vl.str.injEq, exists_eq_left', exists_eq_left, true_and, and_true, if_true, reduceIte, Bool.not_true, Bool.not_false, Bool.true_eq_false, Bool.false_eq_true, if_false, decide_eq_true_eq, Bool.not_eq_true', decide_true, decide_false, Int.reducePow, Int.reduceNeg, Int.reduceLT, Int.reduceLE, or_true, true_or, and_self, List.all_nil, List.all_cons, List.length_nil, List.length_cons, Nat.zero_le, Nat.zero_add, Nat.reduceAdd, Bool.and_true, Bool.true_and, Bool.and_self, exists_const, Nat.reduceBneDiff, Nat.reduceLeDiff, notBorI, notBorS, notBorB, notBorT, notBorL, notBorO, notBorN, notBorD, notBorE]
      refine ⟨by rw [sz]; decide, ?_⟩
      simp only [bF_addLL, ev_bnd, ev_ret, s_cons, s_nil, s_nx, s_rt, s_ct, s_bk, ev_asg, ev_set, evE, evT, e_var, e_own, e_int, e_bl, e_str, e_non, e_gstr, e_gint, e_bin, e_idx, t_cmp, e_cmp, s_ite, s_ret, es_nil, es_cons, e_blt, e_tup, e_cal, t_nt, e_ite, t_ite, e_rev, e_atr, e_mkx, e_mkk, o_non, o_som, e_slc, e_fr, e_mko, f_cal, f_blt, s_retF, e_and, e_or, e_nt, e_neg, t_chn, e_chn, f_lst, e_isi, e_txt, s_par, i_seq, i_rng1, i_rng2, s_own, s_ins, s_app, s_setS, s_exp, s_for, s_frz, f_comp, f_slc, f_bin, f_disp, f_dnewK, c_non, c_som, t_var, t_idx, t_cal, t_blt, t_isi, t_bl, t_fr, t_txt, v_e, v_o, s_retO, s_pass, s_whl, ev_compF, ev_forB, endV_vl, endV_fr, ev_okV, ev_frozen, endF_fr, rtE_nx, rtE_rt, slOf_l, slOf_d, ownL_l, ownG_l, ownG_d, rtO_l, rtO_d, seqI_l, seqI_t, seqI_s, seqI_b, b_addI, b_subI, b_mulI, b_modI, b_fdivI, b_addS, b_addT, b_mulS, b_mulT, b_addLL, b_mulL, b_pow1018, c_ltI, c_leI, c_gtI, c_geI, c_eqI, c_neI, c_eqS, c_neS, c_ltS, c_leS, c_gtS, c_geS, tr_bl, tr_int, tr_non, l_abs, l_int, l_intb, intOf_i, strOf_s, toVl_l, toVl_d, x_if, x_map, x_none, x_some, xb_if, List.getElem?_cons_zero, List.getElem?_cons_succ, List.set_cons_zero, List.set_cons_succ, List.map_cons, List.map_nil, wipeE, st1_n, st1_x, st1_e, Option.some.injEq, Sl.v.injEq, Sl.l.injEq, Sl.d.injEq, Vl.int.injEq, Vl.bl.injEq, Vl.str.injEq, exists_eq_left', exists_eq_left, true_and, and_true, if_true, reduceIte, Bool.not_true, Bool.not_false, Bool.true_eq_false, Bool.false_eq_true, if_false, decide_eq_true_eq, Bool.not_eq_true', decide_true, decide_false, Int.reducePow, Int.reduceNeg, Int.reduceLT, Int.reduceLE, or_true, true_or, and_self, List.all_nil, List.all_cons, List.length_nil, List.length_cons, Nat.zero_le, Nat.zero_add, Nat.reduceAdd, Bool.and_true, Bool.true_and, Bool.and_self, exists_const, Nat.reduceBneDiff, Nat.reduceLeDiff, notBorI, notBorS, notBorB, notBorT, notBorL, notBorO, notBorN, notBorD, notBorE]
      refine ⟨by rw [sz]; decide, ?_⟩
      refine ⟨_, rfl, ?_⟩
      rw [ed]
      have := k [5] (by simp) (by simp) (by simp)
      exact this
    | false =>
      simp only [ev_bnd, ev_ret, s_cons, s_nil, s_nx, s_rt, s_ct, s_bk, ev_asg, ev_set, evE, evT, e_var, e_own, e_int, e_bl, e_str, e_non, e_gstr, e_gint, e_bin, e_idx, t_cmp, e_cmp, s_ite, s_ret, es_nil, es_cons, e_blt, e_tup, e_cal, t_nt, e_ite, t_ite, e_rev, e_atr, e_mkx, e_mkk, o_non, o_som, e_slc, e_fr, e_mko, f_cal, f_blt, s_retF, e_and, e_or, e_nt, e_neg, t_chn, e_chn, f_lst, e_isi, e_txt, s_par, i_seq, i_rng1, i_rng2, s_own, s_ins, s_app, s_setS, s_exp, s_for, s_frz, f_comp, f_slc, f_bin, f_disp, f_dnewK, c_non, c_som, t_var, t_idx, t_cal, t_blt, t_isi, t_bl, t_fr, t_txt, v_e, v_o, s_retO, s_pass, s_whl, ev_compF, ev_forB, endV_vl, endV_fr, ev_okV, ev_frozen, endF_fr, rtE_nx, rtE_rt, slOf_l, slOf_d, ownL_l, ownG_l, ownG_d, rtO_l, rtO_d, seqI_l, seqI_t, seqI_s, seqI_b, b_addI, b_subI, b_mulI, b_modI, b_fdivI, b_addS, b_addT, b_mulS, b_mulT, b_addLL, b_mulL, b_pow1018, c_ltI, c_leI, c_gtI, c_geI, c_eqI, c_neI, c_eqS, c_neS, c_ltS, c_leS, c_gtS, c_geS, tr_bl, tr_int, tr_non, l_abs, l_int, l_intb, intOf_i, strOf_s, toVl_l, toVl_d, x_if, x_map, x_none, x_some, xb_if, List.getElem?_cons_zero, List.getElem?_cons_succ, List.set_cons_zero, List.set_cons_succ, List.map_cons, List.map_nil, wipeE, st1_n, st1_x, st1_e, Option.some.injEq, Sl.v.injEq, Sl.l.injEq, Sl.d.injEq, Vl.int.injEq, Vl.bl.injEq, Vl.str.injEq, exists_eq_left', exists_eq_left, true_and, and_true, if_true, reduceIte, Bool.not_true, Bool.not_false, Bool.true_eq_false, Bool.false_eq_true, if_false, decide_eq_true_eq, Bool.not_eq_true', decide_true, decide_false, Int.reducePow, Int.reduceNeg, Int.reduceLT, Int.reduceLE, or_true, true_or, and_self, List.all_nil, List.all_cons, List.length_nil, List.length_cons, Nat.zero_le, Nat.zero_add, Nat.reduceAdd, Bool.and_true, Bool.true_and, Bool.and_self, exists_const, Nat.reduceBneDiff, Nat.reduceLeDiff, notBorI, notBorS, notBorB, notBorT, notBorL, notBorO, notBorN, notBorD, notBorE]
      refine ⟨by rw [sz]; decide, ?_⟩
      simp only [bF_addLL, ev_bnd, ev_ret, s_cons, s_nil, s_nx, s_rt, s_ct, s_bk, ev_asg, ev_set, evE, evT, e_var, e_own, e_int, e_bl, e_str, e_non, e_gstr, e_gint, e_bin, e_idx, t_cmp, e_cmp, s_ite, s_ret, es_nil, es_cons, e_blt, e_tup, e_cal, t_nt, e_ite, t_ite, e_rev, e_atr, e_mkx, e_mkk, o_non, o_som, e_slc, e_fr, e_mko, f_cal, f_blt, s_retF, e_and, e_or, e_nt, e_neg, t_chn, e_chn, f_lst, e_isi, e_txt, s_par, i_seq, i_rng1, i_rng2, s_own, s_ins, s_app, s_setS, s_exp, s_for, s_frz, f_comp, f_slc, f_bin, f_disp, f_dnewK, c_non, c_som, t_var, t_idx, t_cal, t_blt, t_isi, t_bl, t_fr, t_txt, v_e, v_o, s_retO, s_pass, s_whl, ev_compF, ev_forB, endV_vl, endV_fr, ev_okV, ev_frozen, endF_fr, rtE_nx, rtE_rt, slOf_l, slOf_d, ownL_l, ownG_l, ownG_d, rtO_l, rtO_d, seqI_l, seqI_t, seqI_s, seqI_b, b_addI, b_subI, b_mulI, b_modI, b_fdivI, b_addS, b_addT, b_mulS, b_mulT, b_addLL, b_mulL, b_pow1018, c_ltI, c_leI, c_gtI, c_geI, c_eqI, c_neI, c_eqS, c_neS, c_ltS, c_leS, c_gtS, c_geS, tr_bl, tr_int, tr_non, l_abs, l_int, l_intb, intOf_i, strOf_s, toVl_l, toVl_d, x_if, x_map, x_none, x_some, xb_if, List.getElem?_cons_zero, List.getElem?_cons_succ, List.set_cons_zero, List.set_cons_succ, List.map_cons, List.map_nil, wipeE, st1_n, st1_x, st1_e, Option.some.injEq, Sl.v.injEq, Sl.l.injEq, Sl.d.injEq, Vl.int.injEq, Vl.bl.injEq, Vl.str.injEq, exists_eq_left', exists_eq_left, true_and, and_true, if_true, reduceIte, Bool.not_true, Bool.not_false, Bool.true_eq_false, Bool.false_eq_true, if_false, decide_eq_true_eq, Bool.not_eq_true', decide_true, decide_false, Int.reducePow, Int.reduceNeg, Int.reduceLT, Int.reduceLE, or_true, true_or, and_self, List.all_nil, List.all_cons, List.length_nil, List.length_cons, Nat.zero_le, Nat.zero_add, Nat.reduceAdd, Bool.and_true, Bool.true_and, Bool.and_self, exists_const, Nat.reduceBneDiff, Nat.reduceLeDiff, notBorI, notBorS, notBorB, notBorT, notBorL, notBorO, notBorN, notBorD, notBorE]
      refine ⟨by rw [sz]; simp; omega, ?_⟩
      refine ⟨_, rfl, ?_⟩
      rw [ed]
      have := k cs (by rintro rfl; simp at hc) (by omega) hp
      simpa using this
end LG

set_option Elab.async false
set_option linter.all false
set_option maxRecDepth 100000
set_option maxHeartbeats 0
namespace Lw
open PySem L2 LG
def f__law_begin : Fn := ⟨1, ["_law_script", "_law_cells", "_law_cell"], (.cons (.asg (.nm 1) (.fr (.comp [("_law_cell", 2)] (.blt .abs (.cons (.var 2) .nil)) (.nm 2) (.seq (.slc (.var 0) .non (.som (.int 63)))) .non))) (.cons (.retF (.disp ["cells", "at", "mix"] (.cons (.mko (.bin .add (.var 1) (.bin .mul (.fr (.lst (.cons (.int 5) .nil))) (.blt .int (.cons (.cmp .eq (.var 1) (.fr (.lst .nil))) .nil))))) (.cons (.int 0) (.cons (.int 1) .nil))))) .nil))⟩
def f__law_take : Fn := ⟨2, ["_law_state", "_law_size", "_law_cells", "_law_at", "_law_cell"], (.cons (.asg (.nm 2) (.idx (.var 0) (.str "cells"))) (.cons (.asg (.nm 3) (.bin .mod (.blt .int (.cons (.idx (.var 0) (.str "at")) .nil)) (.blt .len (.cons (.var 2) .nil)))) (.cons (.asg (.nm 4) (.idx (.var 2) (.var 3))) (.cons (.ite (.cmp .ge (.var 4) (.bin .pow (.int 10) (.int 18))) (.cons (.setI (.var 2) (.var 3) (.bin .fdiv (.var 4) (.var 1))) (.cons (.ret (.bin .mod (.blt .int (.cons (.var 4) .nil)) (.var 1))) .nil)) .nil) (.cons (.setI (.var 0) (.str "at") (.bin .add (.idx (.var 0) (.str "at")) (.int 1))) (.cons (.setI (.var 0) (.str "mix") (.bin .mod (.blt .int (.cons (.bin .add (.bin .add (.bin .add (.bin .mul (.idx (.var 0) (.str "mix")) (.int 48271)) (.var 4)) (.bin .mul (.int 7919) (.idx (.var 0) (.str "at")))) (.int 11)) .nil)) (.int 2147483647))) (.cons (.ret (.bin .mod (.bin .fdiv (.bin .mod (.blt .int (.cons (.bin .mul (.idx (.var 0) (.str "mix")) (.idx (.var 0) (.str "mix"))) .nil)) (.int 2147483629)) (.int 16)) (.var 1))) .nil)))))))⟩
def f__law_pick : Fn := ⟨2, ["_law_state", "_law_some"], (.cons (.ret (.idx (.var 1) (.cal "_law_take" (.cons (.var 0) (.cons (.blt .len (.cons (.var 1) .nil)) .nil))))) .nil)⟩
def f__law_marks : Fn := ⟨1, ["_law_e", "_law_some"], (.cons (.asg (.nm 1) (.fr (.lst (.cons (.isi (.var 0) [.own "BadProgram"]) (.cons (.isi (.var 0) [.own "NoProcedure"]) (.cons (.isi (.var 0) [.own "BadState"]) (.cons (.isi (.var 0) [.own "BadMove"]) .nil))))))) (.cons (.asg (.nm 1) (.bin .add (.var 1) (.fr (.lst (.cons (.isi (.var 0) [.own "BadPoint"]) (.cons (.isi (.var 0) [.own "BadStretch"]) (.cons (.isi (.var 0) [.own "NoStep"]) .nil))))))) (.cons (.asg (.nm 1) (.bin .add (.var 1) (.fr (.lst (.cons (.isi (.var 0) [.own "BadWidening"]) (.cons (.isi (.var 0) [.own "TooMany"]) (.cons (.isi (.var 0) [.own "BadEdit"]) .nil))))))) (.cons (.ret (.bin .add (.var 1) (.fr (.lst (.cons (.isi (.var 0) [.own "BadJournal"]) (.cons (.isi (.var 0) [.own "BadText"]) .nil)))))) .nil))))⟩
def f__law_first : Fn := ⟨3, ["_law_way", "_law_thing_here", "_law_by_name", "_law_e"], (.cons (.ite (.cmp .eq (.var 0) (.int 0)) (.cons (.asg (.nm 3) (.ite (.var 2) (.mkk "BadProgram" (.var 1)) (.mkx "BadProgram" (.var 1)))) (.cons (.ret (.tup (.cons (.var 3) (.cons (.atr (.var 3) "name") .nil)))) .nil)) .nil) (.cons (.ite (.cmp .eq (.var 0) (.int 1)) (.cons (.asg (.nm 3) (.ite (.var 2) (.mkk "NoProcedure" (.var 1)) (.mkx "NoProcedure" (.var 1)))) (.cons (.ret (.tup (.cons (.var 3) (.cons (.atr (.var 3) "name") .nil)))) .nil)) .nil) (.cons (.ite (.cmp .eq (.var 0) (.int 2)) (.cons (.asg (.nm 3) (.ite (.var 2) (.mkk "BadState" (.var 1)) (.mkx "BadState" (.var 1)))) (.cons (.ret (.tup (.cons (.var 3) (.cons (.atr (.var 3) "index") .nil)))) .nil)) .nil) (.cons (.ite (.cmp .eq (.var 0) (.int 3)) (.cons (.asg (.nm 3) (.ite (.var 2) (.mkk "BadMove" (.var 1)) (.mkx "BadMove" (.var 1)))) (.cons (.ret (.tup (.cons (.var 3) (.cons (.atr (.var 3) "index") .nil)))) .nil)) .nil) (.cons (.ite (.cmp .eq (.var 0) (.int 4)) (.cons (.asg (.nm 3) (.ite (.var 2) (.mkk "BadPoint" (.var 1)) (.mkx "BadPoint" (.var 1)))) (.cons (.ret (.tup (.cons (.var 3) (.cons (.atr (.var 3) "point") .nil)))) .nil)) .nil) (.cons (.asg (.nm 3) (.ite (.var 2) (.mkk "BadStretch" (.var 1)) (.mkx "BadStretch" (.var 1)))) (.cons (.ret (.tup (.cons (.var 3) (.cons (.atr (.var 3) "index") .nil)))) .nil)))))))⟩
def f__law_last : Fn := ⟨3, ["_law_way", "_law_thing_here", "_law_by_name", "_law_e"], (.cons (.ite (.cmp .eq (.var 0) (.int 6)) (.cons (.asg (.nm 3) (.ite (.var 2) (.mkk "NoStep" (.var 1)) (.mkx "NoStep" (.var 1)))) (.cons (.ret (.tup (.cons (.var 3) (.cons (.atr (.var 3) "index") .nil)))) .nil)) .nil) (.cons (.ite (.cmp .eq (.var 0) (.int 7)) (.cons (.asg (.nm 3) (.ite (.var 2) (.mkk "BadWidening" (.var 1)) (.mkx "BadWidening" (.var 1)))) (.cons (.ret (.tup (.cons (.var 3) (.cons (.atr (.var 3) "index") .nil)))) .nil)) .nil) (.cons (.ite (.cmp .eq (.var 0) (.int 8)) (.cons (.asg (.nm 3) (.ite (.var 2) (.mkk "TooMany" (.var 1)) (.mkx "TooMany" (.var 1)))) (.cons (.ret (.tup (.cons (.var 3) (.cons (.atr (.var 3) "most") .nil)))) .nil)) .nil) (.cons (.ite (.cmp .eq (.var 0) (.int 9)) (.cons (.asg (.nm 3) (.ite (.var 2) (.mkk "BadEdit" (.var 1)) (.mkx "BadEdit" (.var 1)))) (.cons (.ret (.tup (.cons (.var 3) (.cons (.atr (.var 3) "index") .nil)))) .nil)) .nil) (.cons (.ite (.cmp .eq (.var 0) (.int 10)) (.cons (.asg (.nm 3) (.ite (.var 2) (.mkk "BadJournal" (.var 1)) (.mkx "BadJournal" (.var 1)))) (.cons (.ret (.tup (.cons (.var 3) (.cons (.atr (.var 3) "index") .nil)))) .nil)) .nil) (.cons (.asg (.nm 3) (.ite (.var 2) (.mkk "BadText" (.var 1)) (.mkx "BadText" (.var 1)))) (.cons (.ret (.tup (.cons (.var 3) (.cons (.atr (.var 3) "row") .nil)))) .nil)))))))⟩
def f__law_thing : Fn := ⟨1, ["_law_state", "_law_number", "_law_some"], (.cons (.asg (.nm 1) (.idx (.fr (.lst (.cons (.int 0) (.cons (.int 7) (.cons (.neg (.int 1)) (.cons (.bin .sub (.bin .sub (.bin .pow (.int 10) (.int 40)) (.int 1)) (.cal "_law_take" (.cons (.var 0) (.cons (.int 9) .nil)))) (.cons (.cal "_law_take" (.cons (.var 0) (.cons (.int 1000) .nil))) .nil))))))) (.cal "_law_take" (.cons (.var 0) (.cons (.int 5) .nil))))) (.cons (.asg (.nm 2) (.fr (.lst (.cons (.var 1) (.cons (.blt .str (.cons (.var 1) .nil)) (.cons (.str "") (.cons (.str "a b") (.cons (.bl true) (.cons (.bl false) (.cons .non (.cons (.fr (.lst (.cons (.var 1) .nil))) (.cons (.tup (.cons (.var 1) (.cons (.str "x") .nil))) (.cons (.fr (.disp ["a"] (.cons (.var 1) .nil))) (.cons (.tup .nil) (.cons (.fr (.lst .nil)) (.cons (.fr .dnewK) .nil)))))))))))))))) (.cons (.ret (.cal "_law_pick" (.cons (.var 0) (.cons (.var 2) .nil)))) .nil)))⟩
def f_law : Fn := ⟨1, ["_law_script", "_law_state", "_law_turn", "_law_way", "_law_made", "_law_thing_here", "_law_by_name", "_law_k"], (.cons (.asg (.nm 1) (.mko (.cal "_law_begin" (.cons (.var 0) .nil)))) (.cons (.forr (.nm 2) (.rng1 (.int 3)) (.cons (.forr (.nm 3) (.rng1 (.int 12)) (.cons (.par 5 6 (.e (.cal "_law_thing" (.cons (.var 1) .nil))) (.e (.cmp .eq (.cal "_law_take" (.cons (.var 1) (.cons (.int 2) .nil))) (.int 1)))) (.cons (.asg (.nm 4) (.ite (.cmp .lt (.var 3) (.int 6)) (.cal "_law_first" (.cons (.var 3) (.cons (.var 5) (.cons (.var 6) .nil)))) (.cal "_law_last" (.cons (.var 3) (.cons (.var 5) (.cons (.var 6) .nil)))))) (.cons (.ite (.or (.cmp .ne (.blt .repr (.cons (.idx (.var 4) (.int 1)) .nil)) (.blt .repr (.cons (.var 5) .nil))) (.nt (.isi (.idx (.var 4) (.int 0)) [.own "LetGoError"]))) (.cons (.ret (.bl false)) .nil) .nil) (.cons (.ite (.or (.nt (.isi (.idx (.var 4) (.int 0)) [.ty "ValueError"])) (.cmp .ne (.cal "_law_marks" (.cons (.idx (.var 4) (.int 0)) .nil)) (.fr (.comp [("_law_k", 7)] (.cmp .eq (.var 7) (.var 3)) (.nm 7) (.rng1 (.int 12)) .non)))) (.cons (.ret (.bl false)) .nil) .nil) .nil))))) .nil)) (.cons (.ret (.bl true)) .nil)))⟩
def tb : Tb := [("_law_begin", f__law_begin), ("_law_take", f__law_take), ("_law_pick", f__law_pick), ("_law_marks", f__law_marks), ("_law_first", f__law_first), ("_law_last", f__law_last), ("_law_thing", f__law_thing), ("law", f_law)]
def ks : List (Str × Str) := []
def ki : List (Str × Int) := []
def top (i : Nat) : Stmt := PySem.Challenge.pw_letgo_k01_errors_apart.main.body.getD i (.Pass ⟨0, 0, 0, 0⟩)
def cls : List Str := ["LetGoError", "BadProgram", "NoProcedure", "BadState", "BadMove", "BadPoint", "BadStretch", "NoStep", "BadWidening", "TooMany", "BadEdit", "BadJournal", "BadText"]
def s_BadProgram : Stmt := mth (top 2) 0
theorem sc_BadProgram : FnScope ["self", "name"] ["self", "name"] (defScope s_BadProgram) := ⟨rfl, rfl, rfl, by decide +kernel, rfl, by decide +kernel, by decide +kernel⟩
theorem c_BadProgram : iniB ⟨["self", "name"], defScope s_BadProgram, [], []⟩ "LetGoError" (attrOf "BadProgram") (preOf "BadProgram") (defBody s_BadProgram) = true := by decide +kernel
def d_BadProgram : He.DefD := ⟨("BadProgram", some "__init__"), "__init__", "BadProgram.__init__", defArgs s_BadProgram, defBody s_BadProgram, defScope s_BadProgram, [], []⟩
def s_NoProcedure : Stmt := mth (top 3) 0
theorem sc_NoProcedure : FnScope ["self", "name"] ["self", "name"] (defScope s_NoProcedure) := ⟨rfl, rfl, rfl, by decide +kernel, rfl, by decide +kernel, by decide +kernel⟩
theorem c_NoProcedure : iniB ⟨["self", "name"], defScope s_NoProcedure, [], []⟩ "LetGoError" (attrOf "NoProcedure") (preOf "NoProcedure") (defBody s_NoProcedure) = true := by decide +kernel
def d_NoProcedure : He.DefD := ⟨("NoProcedure", some "__init__"), "__init__", "NoProcedure.__init__", defArgs s_NoProcedure, defBody s_NoProcedure, defScope s_NoProcedure, [], []⟩
def s_BadState : Stmt := mth (top 4) 0
theorem sc_BadState : FnScope ["self", "index"] ["self", "index"] (defScope s_BadState) := ⟨rfl, rfl, rfl, by decide +kernel, rfl, by decide +kernel, by decide +kernel⟩
theorem c_BadState : iniB ⟨["self", "index"], defScope s_BadState, [], []⟩ "LetGoError" (attrOf "BadState") (preOf "BadState") (defBody s_BadState) = true := by decide +kernel
def d_BadState : He.DefD := ⟨("BadState", some "__init__"), "__init__", "BadState.__init__", defArgs s_BadState, defBody s_BadState, defScope s_BadState, [], []⟩
def s_BadMove : Stmt := mth (top 5) 0
theorem sc_BadMove : FnScope ["self", "index"] ["self", "index"] (defScope s_BadMove) := ⟨rfl, rfl, rfl, by decide +kernel, rfl, by decide +kernel, by decide +kernel⟩
theorem c_BadMove : iniB ⟨["self", "index"], defScope s_BadMove, [], []⟩ "LetGoError" (attrOf "BadMove") (preOf "BadMove") (defBody s_BadMove) = true := by decide +kernel
def d_BadMove : He.DefD := ⟨("BadMove", some "__init__"), "__init__", "BadMove.__init__", defArgs s_BadMove, defBody s_BadMove, defScope s_BadMove, [], []⟩
def s_BadPoint : Stmt := mth (top 6) 0
theorem sc_BadPoint : FnScope ["self", "point"] ["self", "point"] (defScope s_BadPoint) := ⟨rfl, rfl, rfl, by decide +kernel, rfl, by decide +kernel, by decide +kernel⟩
theorem c_BadPoint : iniB ⟨["self", "point"], defScope s_BadPoint, [], []⟩ "LetGoError" (attrOf "BadPoint") (preOf "BadPoint") (defBody s_BadPoint) = true := by decide +kernel
def d_BadPoint : He.DefD := ⟨("BadPoint", some "__init__"), "__init__", "BadPoint.__init__", defArgs s_BadPoint, defBody s_BadPoint, defScope s_BadPoint, [], []⟩
def s_BadStretch : Stmt := mth (top 7) 0
theorem sc_BadStretch : FnScope ["self", "index"] ["self", "index"] (defScope s_BadStretch) := ⟨rfl, rfl, rfl, by decide +kernel, rfl, by decide +kernel, by decide +kernel⟩
theorem c_BadStretch : iniB ⟨["self", "index"], defScope s_BadStretch, [], []⟩ "LetGoError" (attrOf "BadStretch") (preOf "BadStretch") (defBody s_BadStretch) = true := by decide +kernel
def d_BadStretch : He.DefD := ⟨("BadStretch", some "__init__"), "__init__", "BadStretch.__init__", defArgs s_BadStretch, defBody s_BadStretch, defScope s_BadStretch, [], []⟩
def s_NoStep : Stmt := mth (top 8) 0
theorem sc_NoStep : FnScope ["self", "index"] ["self", "index"] (defScope s_NoStep) := ⟨rfl, rfl, rfl, by decide +kernel, rfl, by decide +kernel, by decide +kernel⟩
theorem c_NoStep : iniB ⟨["self", "index"], defScope s_NoStep, [], []⟩ "LetGoError" (attrOf "NoStep") (preOf "NoStep") (defBody s_NoStep) = true := by decide +kernel
def d_NoStep : He.DefD := ⟨("NoStep", some "__init__"), "__init__", "NoStep.__init__", defArgs s_NoStep, defBody s_NoStep, defScope s_NoStep, [], []⟩
def s_BadWidening : Stmt := mth (top 9) 0
theorem sc_BadWidening : FnScope ["self", "index"] ["self", "index"] (defScope s_BadWidening) := ⟨rfl, rfl, rfl, by decide +kernel, rfl, by decide +kernel, by decide +kernel⟩
theorem c_BadWidening : iniB ⟨["self", "index"], defScope s_BadWidening, [], []⟩ "LetGoError" (attrOf "BadWidening") (preOf "BadWidening") (defBody s_BadWidening) = true := by decide +kernel
def d_BadWidening : He.DefD := ⟨("BadWidening", some "__init__"), "__init__", "BadWidening.__init__", defArgs s_BadWidening, defBody s_BadWidening, defScope s_BadWidening, [], []⟩
def s_TooMany : Stmt := mth (top 10) 0
theorem sc_TooMany : FnScope ["self", "most"] ["self", "most"] (defScope s_TooMany) := ⟨rfl, rfl, rfl, by decide +kernel, rfl, by decide +kernel, by decide +kernel⟩
theorem c_TooMany : iniB ⟨["self", "most"], defScope s_TooMany, [], []⟩ "LetGoError" (attrOf "TooMany") (preOf "TooMany") (defBody s_TooMany) = true := by decide +kernel
def d_TooMany : He.DefD := ⟨("TooMany", some "__init__"), "__init__", "TooMany.__init__", defArgs s_TooMany, defBody s_TooMany, defScope s_TooMany, [], []⟩
def s_BadEdit : Stmt := mth (top 11) 0
theorem sc_BadEdit : FnScope ["self", "index"] ["self", "index"] (defScope s_BadEdit) := ⟨rfl, rfl, rfl, by decide +kernel, rfl, by decide +kernel, by decide +kernel⟩
theorem c_BadEdit : iniB ⟨["self", "index"], defScope s_BadEdit, [], []⟩ "LetGoError" (attrOf "BadEdit") (preOf "BadEdit") (defBody s_BadEdit) = true := by decide +kernel
def d_BadEdit : He.DefD := ⟨("BadEdit", some "__init__"), "__init__", "BadEdit.__init__", defArgs s_BadEdit, defBody s_BadEdit, defScope s_BadEdit, [], []⟩
def s_BadJournal : Stmt := mth (top 12) 0
theorem sc_BadJournal : FnScope ["self", "index"] ["self", "index"] (defScope s_BadJournal) := ⟨rfl, rfl, rfl, by decide +kernel, rfl, by decide +kernel, by decide +kernel⟩
theorem c_BadJournal : iniB ⟨["self", "index"], defScope s_BadJournal, [], []⟩ "LetGoError" (attrOf "BadJournal") (preOf "BadJournal") (defBody s_BadJournal) = true := by decide +kernel
def d_BadJournal : He.DefD := ⟨("BadJournal", some "__init__"), "__init__", "BadJournal.__init__", defArgs s_BadJournal, defBody s_BadJournal, defScope s_BadJournal, [], []⟩
def s_BadText : Stmt := mth (top 13) 0
theorem sc_BadText : FnScope ["self", "row"] ["self", "row"] (defScope s_BadText) := ⟨rfl, rfl, rfl, by decide +kernel, rfl, by decide +kernel, by decide +kernel⟩
theorem c_BadText : iniB ⟨["self", "row"], defScope s_BadText, [], []⟩ "LetGoError" (attrOf "BadText") (preOf "BadText") (defBody s_BadText) = true := by decide +kernel
def d_BadText : He.DefD := ⟨("BadText", some "__init__"), "__init__", "BadText.__init__", defArgs s_BadText, defBody s_BadText, defScope s_BadText, [], []⟩
theorem sc__law_begin : FnScope f__law_begin.ns ["_law_script"] (defScope (top 15)) := ⟨rfl, rfl, rfl, by decide +kernel, rfl, by decide +kernel, by decide +kernel⟩
theorem c__law_begin : chkSs ⟨f__law_begin.ns, defScope (top 15), ks, ki⟩ f__law_begin.body (defBody (top 15)) = true := by decide +kernel
def d__law_begin : He.DefD := ⟨("_law_begin", none), "_law_begin", "_law_begin", defArgs (top 15), defBody (top 15), defScope (top 15), [], []⟩
theorem sc__law_take : FnScope f__law_take.ns ["_law_state", "_law_size"] (defScope (top 16)) := ⟨rfl, rfl, rfl, by decide +kernel, rfl, by decide +kernel, by decide +kernel⟩
theorem c__law_take : chkSs ⟨f__law_take.ns, defScope (top 16), ks, ki⟩ f__law_take.body (defBody (top 16)) = true := by decide +kernel
def d__law_take : He.DefD := ⟨("_law_take", none), "_law_take", "_law_take", defArgs (top 16), defBody (top 16), defScope (top 16), [], []⟩
theorem sc__law_pick : FnScope f__law_pick.ns ["_law_state", "_law_some"] (defScope (top 17)) := ⟨rfl, rfl, rfl, by decide +kernel, rfl, by decide +kernel, by decide +kernel⟩
theorem c__law_pick : chkSs ⟨f__law_pick.ns, defScope (top 17), ks, ki⟩ f__law_pick.body (defBody (top 17)) = true := by decide +kernel
def d__law_pick : He.DefD := ⟨("_law_pick", none), "_law_pick", "_law_pick", defArgs (top 17), defBody (top 17), defScope (top 17), [], []⟩
theorem sc__law_marks : FnScope f__law_marks.ns ["_law_e"] (defScope (top 18)) := ⟨rfl, rfl, rfl, by decide +kernel, rfl, by decide +kernel, by decide +kernel⟩
theorem c__law_marks : chkSs ⟨f__law_marks.ns, defScope (top 18), ks, ki⟩ f__law_marks.body (defBody (top 18)) = true := by decide +kernel
def d__law_marks : He.DefD := ⟨("_law_marks", none), "_law_marks", "_law_marks", defArgs (top 18), defBody (top 18), defScope (top 18), [], []⟩
theorem sc__law_first : FnScope f__law_first.ns ["_law_way", "_law_thing_here", "_law_by_name"] (defScope (top 19)) := ⟨rfl, rfl, rfl, by decide +kernel, rfl, by decide +kernel, by decide +kernel⟩
theorem c__law_first : chkSs ⟨f__law_first.ns, defScope (top 19), ks, ki⟩ f__law_first.body (defBody (top 19)) = true := by decide +kernel
def d__law_first : He.DefD := ⟨("_law_first", none), "_law_first", "_law_first", defArgs (top 19), defBody (top 19), defScope (top 19), [], []⟩
theorem sc__law_last : FnScope f__law_last.ns ["_law_way", "_law_thing_here", "_law_by_name"] (defScope (top 20)) := ⟨rfl, rfl, rfl, by decide +kernel, rfl, by decide +kernel, by decide +kernel⟩
theorem c__law_last : chkSs ⟨f__law_last.ns, defScope (top 20), ks, ki⟩ f__law_last.body (defBody (top 20)) = true := by decide +kernel
def d__law_last : He.DefD := ⟨("_law_last", none), "_law_last", "_law_last", defArgs (top 20), defBody (top 20), defScope (top 20), [], []⟩
theorem sc__law_thing : FnScope f__law_thing.ns ["_law_state"] (defScope (top 21)) := ⟨rfl, rfl, rfl, by decide +kernel, rfl, by decide +kernel, by decide +kernel⟩
theorem c__law_thing : chkSs ⟨f__law_thing.ns, defScope (top 21), ks, ki⟩ f__law_thing.body (defBody (top 21)) = true := by decide +kernel
def d__law_thing : He.DefD := ⟨("_law_thing", none), "_law_thing", "_law_thing", defArgs (top 21), defBody (top 21), defScope (top 21), [], []⟩
theorem sc_law : FnScope f_law.ns ["_law_script"] (defScope (top 22)) := ⟨rfl, rfl, rfl, by decide +kernel, rfl, by decide +kernel, by decide +kernel⟩
theorem c_law : chkSs ⟨f_law.ns, defScope (top 22), ks, ki⟩ f_law.body (defBody (top 22)) = true := by decide +kernel
def d_law : He.DefD := ⟨("law", none), "law", "law", defArgs (top 22), defBody (top 22), defScope (top 22), [], []⟩
def fn : List He.DefD := [d__law_begin, d__law_take, d__law_pick, d__law_marks, d__law_first, d__law_last, d__law_thing, d_law, d_BadProgram, d_NoProcedure, d_BadState, d_BadMove, d_BadPoint, d_BadStretch, d_NoStep, d_BadWidening, d_TooMany, d_BadEdit, d_BadJournal, d_BadText]
def cks : List Ck := [isaB cls, fun K => lgeB K (He.ga K "LetGoError")]
def fa : List He.Fa := [.glo "_law_begin", .glo "_law_take", .glo "_law_pick", .glo "_law_marks", .glo "_law_first", .glo "_law_last", .glo "_law_thing", .glo "law", .glo "LetGoError", .glo "BadProgram", .glo "NoProcedure", .glo "BadState", .glo "BadMove", .glo "BadPoint", .glo "BadStretch", .glo "NoStep", .glo "BadWidening", .glo "TooMany", .glo "BadEdit", .glo "BadJournal", .glo "BadText", .free "len", .free "abs", .free "int", .free "str", .free "repr", .free "all", .free "any", .free "tuple", .free "min", .free "max", .free "sum", .free "list", .free "sorted", .free "dict", .free "isinstance", .free "range", .free "bool", .free "set", .free "enumerate", .free "zip", .free "reversed", .free "ValueError", .free "Exception", .free "TypeError", .free "frozenset", .free "type"]
abbrev R : PySem.W.OpenRow := PySem.W.OpenLaw.row PySem.Challenge.rw_letgo_k01_errors_apart
abbrev hk : PySem.W.Hook := hookF 5 cks fa fn
def ob (s : PySem.W.SharedT) : AlF := obsFG 5 cks fa fn (HandSHeadRun.getT s)
theorem ob_eq (s : PySem.W.SharedT) : ob s = hk.obs s.abs := obsFG_eq (HandSHeadRun.getT_eq s)
def names : List Str := ["LetGoError", "BadProgram", "NoProcedure", "BadState", "BadMove", "BadPoint", "BadStretch", "NoStep", "BadWidening", "TooMany", "BadEdit", "BadJournal", "BadText", "_law_begin", "_law_take", "_law_pick", "_law_marks", "_law_first", "_law_last", "_law_thing"]
theorem run (w : World) : HandSHeadRun.RunEq R (PySem.W.view R.prog [22]) hk ob 30000 names w := by
  intro os
  kernel_rfl
theorem facts {K : PySem.W.Frag} {h : Heap} {mg : Str → Option Value} (X : K.In h) (G : h.Ns mainGlobals mg) (c : SaysF cks fa fn K) :
    (∀ f fn, tb.lookup f = some fn → DefF K mg ks ki f fn) ∧ (∀ n ∈ bltN, mg n = none) ∧ (∀ n s, (n, s) ∈ ks → ∃ t, mg n = some (.str s t)) ∧ (∀ n i, (n, i) ∈ ki → ∃ t, mg n = some (.int i t)) ∧ IsaT K mg cls ∧ ∀ n ∈ cls, n ∈ errN → ErrT K mg n := by
  have hcl : ∀ n ∈ cls, mg n = some (.ref (He.ga K n)) := fun n hn => by
    simp only [cls, List.mem_cons, List.not_mem_nil, or_false] at hn
    rcases hn with rfl | rfl | rfl | rfl | rfl | rfl | rfl | rfl | rfl | rfl | rfl | rfl | rfl
    · exact He.glo_ok X G (c.d.fact 8 (f := .glo "LetGoError") rfl)
    · exact He.glo_ok X G (c.d.fact 9 (f := .glo "BadProgram") rfl)
    · exact He.glo_ok X G (c.d.fact 10 (f := .glo "NoProcedure") rfl)
    · exact He.glo_ok X G (c.d.fact 11 (f := .glo "BadState") rfl)
    · exact He.glo_ok X G (c.d.fact 12 (f := .glo "BadMove") rfl)
    · exact He.glo_ok X G (c.d.fact 13 (f := .glo "BadPoint") rfl)
    · exact He.glo_ok X G (c.d.fact 14 (f := .glo "BadStretch") rfl)
    · exact He.glo_ok X G (c.d.fact 15 (f := .glo "NoStep") rfl)
    · exact He.glo_ok X G (c.d.fact 16 (f := .glo "BadWidening") rfl)
    · exact He.glo_ok X G (c.d.fact 17 (f := .glo "TooMany") rfl)
    · exact He.glo_ok X G (c.d.fact 18 (f := .glo "BadEdit") rfl)
    · exact He.glo_ok X G (c.d.fact 19 (f := .glo "BadJournal") rfl)
    · exact He.glo_ok X G (c.d.fact 20 (f := .glo "BadText") rfl)
  have hbl : ∀ n ∈ bltN, mg n = none := fun n hn => by
    simp only [bltN, List.mem_cons, List.not_mem_nil, or_false] at hn
    rcases hn with rfl | rfl | rfl | rfl | rfl | rfl | rfl | rfl | rfl | rfl | rfl | rfl | rfl | rfl | rfl | rfl | rfl | rfl | rfl | rfl | rfl | rfl | rfl | rfl | rfl | rfl
    · exact He.free_ok X G (c.d.fact 21 (f := .free "len") rfl)
    · exact He.free_ok X G (c.d.fact 22 (f := .free "abs") rfl)
    · exact He.free_ok X G (c.d.fact 23 (f := .free "int") rfl)
    · exact He.free_ok X G (c.d.fact 24 (f := .free "str") rfl)
    · exact He.free_ok X G (c.d.fact 25 (f := .free "repr") rfl)
    · exact He.free_ok X G (c.d.fact 26 (f := .free "all") rfl)
    · exact He.free_ok X G (c.d.fact 27 (f := .free "any") rfl)
    · exact He.free_ok X G (c.d.fact 28 (f := .free "tuple") rfl)
    · exact He.free_ok X G (c.d.fact 29 (f := .free "min") rfl)
    · exact He.free_ok X G (c.d.fact 30 (f := .free "max") rfl)
    · exact He.free_ok X G (c.d.fact 31 (f := .free "sum") rfl)
    · exact He.free_ok X G (c.d.fact 32 (f := .free "list") rfl)
    · exact He.free_ok X G (c.d.fact 33 (f := .free "sorted") rfl)
    · exact He.free_ok X G (c.d.fact 34 (f := .free "dict") rfl)
    · exact He.free_ok X G (c.d.fact 35 (f := .free "isinstance") rfl)
    · exact He.free_ok X G (c.d.fact 36 (f := .free "range") rfl)
    · exact He.free_ok X G (c.d.fact 37 (f := .free "bool") rfl)
    · exact He.free_ok X G (c.d.fact 38 (f := .free "set") rfl)
    · exact He.free_ok X G (c.d.fact 39 (f := .free "enumerate") rfl)
    · exact He.free_ok X G (c.d.fact 40 (f := .free "zip") rfl)
    · exact He.free_ok X G (c.d.fact 41 (f := .free "reversed") rfl)
    · exact He.free_ok X G (c.d.fact 42 (f := .free "ValueError") rfl)
    · exact He.free_ok X G (c.d.fact 43 (f := .free "Exception") rfl)
    · exact He.free_ok X G (c.d.fact 44 (f := .free "TypeError") rfl)
    · exact He.free_ok X G (c.d.fact 45 (f := .free "frozenset") rfl)
    · exact He.free_ok X G (c.d.fact 46 (f := .free "type") rfl)
  refine ⟨fun f fn hf => ?_, hbl, fun n s hs => ?_, fun n i hi => ?_, isaB_ok (c.ck 0 rfl) hcl, fun n hn hne => ?_⟩
  · have hm := PySem.mem_of_lookup hf
    simp only [tb, List.mem_cons, Prod.mk.injEq, List.not_mem_nil, or_false] at hm
    rcases hm with ⟨rfl, rfl⟩ | ⟨rfl, rfl⟩ | ⟨rfl, rfl⟩ | ⟨rfl, rfl⟩ | ⟨rfl, rfl⟩ | ⟨rfl, rfl⟩ | ⟨rfl, rfl⟩ | ⟨rfl, rfl⟩
    · obtain ⟨fd, F⟩ := c.d.def_ 0 (d := d__law_begin) rfl
      exact ⟨_, fd, _, _, _, ["_law_script"], He.glo_ok X G (c.d.fact 0 (f := .glo "_law_begin") rfl), F, FunD.bindsN F fun _ _ _ _ _ _ us hl => (match us, hl with | [_], _ => rfl), sc__law_begin, rfl, c__law_begin⟩
    · obtain ⟨fd, F⟩ := c.d.def_ 1 (d := d__law_take) rfl
      exact ⟨_, fd, _, _, _, ["_law_state", "_law_size"], He.glo_ok X G (c.d.fact 1 (f := .glo "_law_take") rfl), F, FunD.bindsN F fun _ _ _ _ _ _ us hl => (match us, hl with | [_, _], _ => rfl), sc__law_take, rfl, c__law_take⟩
    · obtain ⟨fd, F⟩ := c.d.def_ 2 (d := d__law_pick) rfl
      exact ⟨_, fd, _, _, _, ["_law_state", "_law_some"], He.glo_ok X G (c.d.fact 2 (f := .glo "_law_pick") rfl), F, FunD.bindsN F fun _ _ _ _ _ _ us hl => (match us, hl with | [_, _], _ => rfl), sc__law_pick, rfl, c__law_pick⟩
    · obtain ⟨fd, F⟩ := c.d.def_ 3 (d := d__law_marks) rfl
      exact ⟨_, fd, _, _, _, ["_law_e"], He.glo_ok X G (c.d.fact 3 (f := .glo "_law_marks") rfl), F, FunD.bindsN F fun _ _ _ _ _ _ us hl => (match us, hl with | [_], _ => rfl), sc__law_marks, rfl, c__law_marks⟩
    · obtain ⟨fd, F⟩ := c.d.def_ 4 (d := d__law_first) rfl
      exact ⟨_, fd, _, _, _, ["_law_way", "_law_thing_here", "_law_by_name"], He.glo_ok X G (c.d.fact 4 (f := .glo "_law_first") rfl), F, FunD.bindsN F fun _ _ _ _ _ _ us hl => (match us, hl with | [_, _, _], _ => rfl), sc__law_first, rfl, c__law_first⟩
    · obtain ⟨fd, F⟩ := c.d.def_ 5 (d := d__law_last) rfl
      exact ⟨_, fd, _, _, _, ["_law_way", "_law_thing_here", "_law_by_name"], He.glo_ok X G (c.d.fact 5 (f := .glo "_law_last") rfl), F, FunD.bindsN F fun _ _ _ _ _ _ us hl => (match us, hl with | [_, _, _], _ => rfl), sc__law_last, rfl, c__law_last⟩
    · obtain ⟨fd, F⟩ := c.d.def_ 6 (d := d__law_thing) rfl
      exact ⟨_, fd, _, _, _, ["_law_state"], He.glo_ok X G (c.d.fact 6 (f := .glo "_law_thing") rfl), F, FunD.bindsN F fun _ _ _ _ _ _ us hl => (match us, hl with | [_], _ => rfl), sc__law_thing, rfl, c__law_thing⟩
    · obtain ⟨fd, F⟩ := c.d.def_ 7 (d := d_law) rfl
      exact ⟨_, fd, _, _, _, ["_law_script"], He.glo_ok X G (c.d.fact 7 (f := .glo "law") rfl), F, FunD.bindsN F fun _ _ _ _ _ _ us hl => (match us, hl with | [_], _ => rfl), sc_law, rfl, c_law⟩
  · exact (nomatch hs)
  · exact (nomatch hi)
  · have hb := isaB_err (c.ck 0 (f := isaB cls) rfl) hn hne
    have hl := hcl "LetGoError" (by decide +kernel)
    have T := c.ck 1 (f := fun K => lgeB K (He.ga K "LetGoError")) rfl
    have hm := hcl n hn
    simp only [cls, List.mem_cons, List.not_mem_nil, or_false] at hn
    rcases hn with rfl | rfl | rfl | rfl | rfl | rfl | rfl | rfl | rfl | rfl | rfl | rfl | rfl
    · exact absurd hne (by decide +kernel)
    · obtain ⟨fd, F⟩ := c.d.def_ 8 (d := d_BadProgram) rfl
      exact errT_of hb hm F sc_BadProgram c_BadProgram T hl hbl (fun s a u _ => bindsKw F (fun _ _ _ _ _ _ => rfl) s) (fun s a u _ => bindsKw F (fun _ _ _ _ _ _ => rfl) s)
    · obtain ⟨fd, F⟩ := c.d.def_ 9 (d := d_NoProcedure) rfl
      exact errT_of hb hm F sc_NoProcedure c_NoProcedure T hl hbl (fun s a u _ => bindsKw F (fun _ _ _ _ _ _ => rfl) s) (fun s a u _ => bindsKw F (fun _ _ _ _ _ _ => rfl) s)
    · obtain ⟨fd, F⟩ := c.d.def_ 10 (d := d_BadState) rfl
      exact errT_of hb hm F sc_BadState c_BadState T hl hbl (fun s a u _ => bindsKw F (fun _ _ _ _ _ _ => rfl) s) (fun s a u _ => bindsKw F (fun _ _ _ _ _ _ => rfl) s)
    · obtain ⟨fd, F⟩ := c.d.def_ 11 (d := d_BadMove) rfl
      exact errT_of hb hm F sc_BadMove c_BadMove T hl hbl (fun s a u _ => bindsKw F (fun _ _ _ _ _ _ => rfl) s) (fun s a u _ => bindsKw F (fun _ _ _ _ _ _ => rfl) s)
    · obtain ⟨fd, F⟩ := c.d.def_ 12 (d := d_BadPoint) rfl
      exact errT_of hb hm F sc_BadPoint c_BadPoint T hl hbl (fun s a u _ => bindsKw F (fun _ _ _ _ _ _ => rfl) s) (fun s a u _ => bindsKw F (fun _ _ _ _ _ _ => rfl) s)
    · obtain ⟨fd, F⟩ := c.d.def_ 13 (d := d_BadStretch) rfl
      exact errT_of hb hm F sc_BadStretch c_BadStretch T hl hbl (fun s a u _ => bindsKw F (fun _ _ _ _ _ _ => rfl) s) (fun s a u _ => bindsKw F (fun _ _ _ _ _ _ => rfl) s)
    · obtain ⟨fd, F⟩ := c.d.def_ 14 (d := d_NoStep) rfl
      exact errT_of hb hm F sc_NoStep c_NoStep T hl hbl (fun s a u _ => bindsKw F (fun _ _ _ _ _ _ => rfl) s) (fun s a u _ => bindsKw F (fun _ _ _ _ _ _ => rfl) s)
    · obtain ⟨fd, F⟩ := c.d.def_ 15 (d := d_BadWidening) rfl
      exact errT_of hb hm F sc_BadWidening c_BadWidening T hl hbl (fun s a u _ => bindsKw F (fun _ _ _ _ _ _ => rfl) s) (fun s a u _ => bindsKw F (fun _ _ _ _ _ _ => rfl) s)
    · obtain ⟨fd, F⟩ := c.d.def_ 16 (d := d_TooMany) rfl
      exact errT_of hb hm F sc_TooMany c_TooMany T hl hbl (fun s a u _ => bindsKw F (fun _ _ _ _ _ _ => rfl) s) (fun s a u _ => bindsKw F (fun _ _ _ _ _ _ => rfl) s)
    · obtain ⟨fd, F⟩ := c.d.def_ 17 (d := d_BadEdit) rfl
      exact errT_of hb hm F sc_BadEdit c_BadEdit T hl hbl (fun s a u _ => bindsKw F (fun _ _ _ _ _ _ => rfl) s) (fun s a u _ => bindsKw F (fun _ _ _ _ _ _ => rfl) s)
    · obtain ⟨fd, F⟩ := c.d.def_ 18 (d := d_BadJournal) rfl
      exact errT_of hb hm F sc_BadJournal c_BadJournal T hl hbl (fun s a u _ => bindsKw F (fun _ _ _ _ _ _ => rfl) s) (fun s a u _ => bindsKw F (fun _ _ _ _ _ _ => rfl) s)
    · obtain ⟨fd, F⟩ := c.d.def_ 19 (d := d_BadText) rfl
      exact errT_of hb hm F sc_BadText c_BadText T hl hbl (fun s a u _ => bindsKw F (fun _ _ _ _ _ _ => rfl) s) (fun s a u _ => bindsKw F (fun _ _ _ _ _ _ => rfl) s)
def Ans : Prop := ∀ ns : List Int, ns.length ≤ 63 → (∀ z ∈ ns, Builtin.Int.intBits z ≤ 1048576) → ∃ st, callD tb cls 100 100 "law" [.scr (ns.map .int)] [] = .ok (.vl (.bl true)) st
end Lw
section
open PySem PySem.W PySem.Calls PyProof.Rows
theorem Lw.holds (ans : Lw.Ans) : PySem.Challenge.rw_letgo_k01_errors_apart.Holds := by
  w_on; o_law
  refine HandSHeadRun.head_any (r := OpenLaw.row PySem.Challenge.rw_letgo_k01_errors_apart) (q := view (OpenLaw.row PySem.Challenge.rw_letgo_k01_errors_apart).prog [22]) (H := Lw.hk) (ob := Lw.ob) (M := 30000) (loose := Lw.names) (d := HandSHeadRun.topDef (OpenLaw.row PySem.Challenge.rw_letgo_k01_errors_apart).prog 22) (kwd := []) Lw.ob_eq
    (by kernel_rfl) (fun s => by kernel_rfl) Lw.run (by kernel_rfl) (by kernel_rfl) (by kernel_rfl) (by rfl) (by first | assumption | decide +kernel) (by decide +kernel) ⟨rfl, rfl, rfl, rfl, rfl, by decide +kernel⟩ ?hw ?hc
  case hw => w_witness2
  case hc =>
    have en : (HandSHeadRun.topDef (OpenLaw.row PySem.Challenge.rw_letgo_k01_errors_apart).prog 22).name = ("law" : PySem.Str) := by kernel_rfl
    refine LG.walk_LG (l := PySem.Challenge.rw_letgo_k01_errors_apart) (tb := Lw.tb) (cls := Lw.cls) (fuel := 100) (k := 100) (ks := Lw.ks) (ki := Lw.ki) (fn := Lw.f_law) rfl (by kernel_rfl) ⟨rfl, by decide, by decide⟩ (by decide +kernel) (by rw [en]; rfl) (fun w mg h Y G => ?_) (by rw [en]; exact ans)
    obtain ⟨K, KX, c⟩ := Y
    exact ⟨K, KX, Lw.facts KX G c⟩
end

set_option Elab.async false
set_option linter.all false
set_option maxRecDepth 100000
set_option maxHeartbeats 8000000
namespace Lw
open PySem L2 LG PyProof.Rows
open PySem.PyData (strOk)
/-- a value that is shown -/
structure Th (x : Vl) : Prop where
  nb : notBor x = true
  rp : ∃ z, (∀ st, bltM .repr st [x] = some (.str z)) ∧ strOk z = true ∧ z.length ≤ 1000
theorem th_of {x : Vl} {d : PyData} (e : ∀ st, toPyDS st x = some d) (nb : notBor x = true) (hs : d.showable = true) (hd : d.depth ≤ 60) (hl : d.shown.length ≤ 1000) (hz : sgn d.shown) : Th x := by
  refine ⟨nb, d.shown, fun st => ?_, sgn_strOk hz, hl⟩
  show (match toPyDS st x with
    | some d => if d.showable && decide (d.depth ≤ 60) && decide (d.shown.length ≤ sizeLine) then some (Vl.str d.shown) else none
    | none => none) = _
  rw [e st]
  have hs2 : sizeLine = 16777216 := rfl
  simp only [hs, Bool.true_and]
  rw [if_pos]
  simp only [Bool.and_eq_true, decide_eq_true_eq]
  omega
def Bi (n : Int) : Prop := n.natAbs < 10 ^ 41
theorem bi_show {n : Int} (h : Bi n) : (PyData.int n).showable = true := by
  show decide (n.natAbs.log2 < 1920) = true
  refine decide_eq_true ?_
  by_cases h0 : n.natAbs = 0
  · rw [h0]; decide
  · exact Nat.lt_trans ((Nat.log2_lt h0).mpr (Nat.lt_of_lt_of_le h (by decide : 10 ^ 41 ≤ 2 ^ 137))) (by decide)
theorem bi_len {n : Int} (h : Bi n) : (Str.ofString (toString n)).length ≤ 42 := by
  have e := int_text_length_le10 (a := n) (k := 41) (by decide) h
  have : (Str.ofString (toString n)).length = (toString n).length := PySem.ofString_length _
  omega
theorem asc_int (n : Int) : asc (Str.ofString (toString n)) = true := List.all_eq_true.mpr fun c hc => decide_eq_true (by
  by_cases h : c < 128
  · exact h
  · exact absurd hc (int_text_free' c ⟨by omega, by omega⟩ n))
theorem th_int {n : Int} (h : Bi n) : Th (.int n) := th_of (d := .int n) (fun _ => rfl) rfl (bi_show h) (Nat.le_of_ble_eq_true rfl) (by have := bi_len h; show (Str.ofString (toString n)).length ≤ _; omega) (sgn_of _)
theorem th_str {s : Str} (h : asc s = true) (hl : s.length ≤ 60) : Th (.str s) := th_of (d := .str s) (fun _ => rfl) rfl rfl (Nat.le_of_ble_eq_true rfl) (by
  have := StrLaws.reprText_len s fun c hc => Nat.lt_trans (asc_ok h c hc) (by decide)
  show (reprText s).length ≤ _
  omega) (sgn_repr h)
theorem th_lst {n : Int} (h : Bi n) : Th (.lst [.int n]) := th_of (d := .list [.int n]) (fun _ => rfl) rfl (by have := bi_show h; simp [PyData.showable, PyData.showableAll] at this ⊢; exact this) (Nat.le_of_ble_eq_true rfl) (by
  have := bi_len h
  have h2 := listText_len_le (PyData.shownAll [.int n])
  show (listText (PyData.shownAll [.int n])).length ≤ _
  simp only [PyData.shownAll, PyData.shown, List.map_cons, List.map_nil, List.sum_cons, List.sum_nil, List.length_cons, List.length_nil] at h2 ⊢
  omega) (by
  show sgn (listText (PyData.shownAll [.int n]))
  rw [listText_eq_join]
  exact sgn_app (sgn_app (sgn_of _) (sgn_join (sgn_of _) fun t ht => by
    simp only [PyData.shownAll, PyData.shown, List.mem_cons, List.not_mem_nil, or_false] at ht
    subst ht
    exact sgn_of _)) (sgn_of _))
theorem th_tup {n : Int} (h : Bi n) : Th (.tup [.int n, .str "x"]) := th_of (d := .tuple [.int n, .str "x"]) (fun _ => rfl) rfl (by have := bi_show h; simp [PyData.showable, PyData.showableAll] at this ⊢; exact this) (Nat.le_of_ble_eq_true rfl) (by
  have := bi_len h
  have h2 := tupleText_len_le (PyData.shownAll [.int n, .str "x"])
  have h3 : (reprText "x").length ≤ 10 := by decide +kernel
  show (tupleText (PyData.shownAll [.int n, .str "x"])).length ≤ _
  simp only [PyData.shownAll, PyData.shown, List.map_cons, List.map_nil, List.sum_cons, List.sum_nil, List.length_cons, List.length_nil] at h2 ⊢
  omega) (by
  show sgn (tupleText (PyData.shownAll [.int n, .str "x"]))
  unfold tupleText
  refine sgn_app (sgn_app (sgn_of _) (sgn_join (sgn_of _) fun t ht => ?_)) ?_
  · simp only [PyData.shownAll, PyData.shown, List.mem_cons, List.not_mem_nil, or_false] at ht
    rcases ht with rfl | rfl
    · exact sgn_of _
    · exact sgn_repr (by decide +kernel)
  · split <;> exact sgn_of _)
theorem th_dk {n : Int} (h : Bi n) : Th (.dk [(.inr "a", .int n)]) := th_of (d := .dict [(.str "a", .int n)]) (fun _ => rfl) rfl (by have := bi_show h; simp [PyData.showable, PyData.showableKv] at this ⊢; exact this) (Nat.le_of_ble_eq_true rfl) (by
  have := bi_len h
  have h3 : (reprText "a").length ≤ 10 := by decide +kernel
  have h2 := dictText_len_le (PyData.shownKv [(.str "a", .int n)])
  have h4 : ((": " : Str)).length = 2 := by decide +kernel
  show (dictText (PyData.shownKv [(.str "a", .int n)])).length ≤ _
  simp only [PyData.shownKv, PyData.shown, List.map_cons, List.map_nil, List.sum_cons, List.sum_nil, List.length_cons, List.length_nil, strLen_append] at h2 ⊢
  omega) (by
  show sgn (dictText (PyData.shownKv [(.str "a", .int n)]))
  unfold dictText
  refine sgn_app (sgn_app (sgn_of _) (sgn_join (sgn_of _) fun t ht => ?_)) (sgn_of _)
  simp only [PyData.shownKv, PyData.shown, List.mem_cons, List.not_mem_nil, or_false] at ht
  subst ht
  exact sgn_app (sgn_app (sgn_repr (by decide +kernel)) (sgn_of _)) (sgn_of _))
theorem th_bl (b : Bool) : Th (.bl b) := th_of (d := .bool b) (fun _ => rfl) rfl rfl (Nat.le_of_ble_eq_true rfl) (by cases b <;> decide +kernel) (by cases b <;> exact sgn_of _)
theorem th_non : Th .non := th_of (d := .none) (fun _ => rfl) rfl rfl (Nat.le_of_ble_eq_true rfl) (by decide +kernel) (sgn_of _)
theorem th_of_pl {x : Vl} (h : pl x = true) (hd : dp x ≤ 10) (hw : wt x ≤ 60) (nb : notBor x = true) (no : ∀ i, x ≠ .obj i) : Th x := by
  obtain ⟨d, e, h1, h2, h3⟩ := pl_rep x h
  exact th_of (d := d) (fun st => by cases x <;> first | exact e | exact absurd rfl (no _)) nb h1 (by omega) (by omega) (pl_sgn x h d e)
theorem h_take : tb.lookup ("_law_take" : Str) = some g__law_take := rfl
theorem h_pick : tb.lookup ("_law_pick" : Str) = some g__law_pick := rfl
theorem h_begin : tb.lookup ("_law_begin" : Str) = some g__law_begin := rfl
theorem h_thing : tb.lookup ("_law_thing" : Str) = some f__law_thing := rfl
theorem h_marks : tb.lookup ("_law_marks" : Str) = some f__law_marks := rfl
theorem h_first : tb.lookup ("_law_first" : Str) = some f__law_first := rfl
theorem h_last : tb.lookup ("_law_last" : Str) = some f__law_last := rfl
theorem h_law : tb.lookup ("law" : Str) = some f_law := rfl
theorem isS {α : Type} {o : Option α} {a : α} (h : o = some a) : o.isSome = true := by rw [h]; rfl
theorem p40 {st : Sto} : binM .pow st (.int 10) (.int 40) = some (.int 10000000000000000000000000000000000000000) := by
  show (if 0 ≤ (40 : Int) ∧ (40 : Int) ≤ 1000000 ∧ (10 : Int).natAbs < 2 ^ 64 then some (Vl.int ((10 : Int) ^ (40 : Int).toNat)) else none) = _
  rw [if_pos (by decide)]
  rfl
theorem l_str {st : Sto} {n : Int} (h : Bi n) : bltM .str st [.int n] = some (.str (Str.ofString (toString n))) := by
  have e := bi_show h
  have e : n.natAbs.log2 < 1920 := of_decide_eq_true e
  show (if n.natAbs.log2 < 1920 then some (Vl.str (Str.ofString (toString n))) else none) = _
  rw [if_pos e]
theorem thing_use {d : Nat} {i j : Nat} {st : Sto} {P : Rt → Sto → Prop} (h : Dr st i j) (k : ∀ (x : Vl) (s : Sto), Th x → DS i j st s → P (.vl x) s) : Ev1 (callD tb cls 100 (d + 3) "_law_thing" [.obj i]) st P := by
  rw [call_eq h_thing rfl (Nat.le_of_ble_eq_true rfl), ev_bnd]
  have sz := sz24
  simp only [f__law_thing, isS h_take, isS h_pick, p40, ev_bnd, ev_ret, s_cons, s_nil, s_nx, s_rt, s_ct, s_bk, ev_asg, ev_set, evE, evT, e_var, e_own, e_int, e_bl, e_str, e_non, e_gstr, e_gint, e_bin, e_idx, t_cmp, e_cmp, s_ite, s_ret, es_nil, es_cons, e_blt, e_tup, e_cal, t_nt, e_ite, t_ite, e_rev, e_atr, e_mkx, e_mkk, o_non, o_som, e_slc, e_fr, e_mko, f_cal, f_blt, s_retF, e_and, e_or, e_nt, e_neg, t_chn, e_chn, f_lst, e_isi, e_txt, s_par, i_seq, i_rng1, i_rng2, s_own, s_ins, s_app, s_setS, s_exp, s_for, s_frz, f_comp, f_slc, f_bin, f_disp, f_dnewK, c_non, c_som, t_var, t_idx, t_cal, t_blt, t_isi, t_bl, t_fr, t_txt, v_e, v_o, s_retO, s_pass, s_whl, ev_compF, ev_forB, endV_vl, endV_fr, ev_okV, ev_frozen, endF_fr, rtE_nx, rtE_rt, slOf_l, slOf_d, ownL_l, ownG_l, ownG_d, rtO_l, rtO_d, seqI_l, seqI_t, seqI_s, seqI_b, b_addI, b_subI, b_mulI, b_modI, b_fdivI, b_addS, b_addT, b_mulS, b_mulT, b_addLL, b_mulL, b_pow1018, c_ltI, c_leI, c_gtI, c_geI, c_eqI, c_neI, c_eqS, c_neS, c_ltS, c_leS, c_gtS, c_geS, tr_bl, tr_int, tr_non, l_abs, l_int, l_intb, intOf_i, strOf_s, toVl_l, toVl_d, x_if, x_map, x_none, x_some, xb_if, List.getElem?_cons_zero, List.getElem?_cons_succ, List.set_cons_zero, List.set_cons_succ, List.map_cons, List.map_nil, wipeE, st1_n, st1_x, st1_e, Option.some.injEq, Sl.v.injEq, Sl.l.injEq, Sl.d.injEq, Vl.int.injEq, Vl.bl.injEq, Vl.str.injEq, exists_eq_left', exists_eq_left, true_and, and_true, if_true, reduceIte, Bool.not_true, Bool.not_false, Bool.true_eq_false, Bool.false_eq_true, if_false, decide_eq_true_eq, Bool.not_eq_true', decide_true, decide_false, Int.reducePow, Int.reduceNeg, Int.reduceLT, Int.reduceLE, or_true, true_or, and_self, List.all_nil, List.all_cons, List.length_nil, List.length_cons, Nat.zero_le, Nat.zero_add, Nat.reduceAdd, Bool.and_true, Bool.true_and, Bool.and_self, exists_const, Nat.reduceBneDiff, Nat.reduceLeDiff, notBorI, notBorS, notBorB, notBorT, notBorL, notBorO, notBorN, notBorD, notBorE]
  refine take_use (d := d + 1) h_take h (by omega) (by omega) fun q1 s1 a1 b1 D1 => ?_
  simp only [isS h_take, isS h_pick, p40, ev_bnd, ev_ret, s_cons, s_nil, s_nx, s_rt, s_ct, s_bk, ev_asg, ev_set, evE, evT, e_var, e_own, e_int, e_bl, e_str, e_non, e_gstr, e_gint, e_bin, e_idx, t_cmp, e_cmp, s_ite, s_ret, es_nil, es_cons, e_blt, e_tup, e_cal, t_nt, e_ite, t_ite, e_rev, e_atr, e_mkx, e_mkk, o_non, o_som, e_slc, e_fr, e_mko, f_cal, f_blt, s_retF, e_and, e_or, e_nt, e_neg, t_chn, e_chn, f_lst, e_isi, e_txt, s_par, i_seq, i_rng1, i_rng2, s_own, s_ins, s_app, s_setS, s_exp, s_for, s_frz, f_comp, f_slc, f_bin, f_disp, f_dnewK, c_non, c_som, t_var, t_idx, t_cal, t_blt, t_isi, t_bl, t_fr, t_txt, v_e, v_o, s_retO, s_pass, s_whl, ev_compF, ev_forB, endV_vl, endV_fr, ev_okV, ev_frozen, endF_fr, rtE_nx, rtE_rt, slOf_l, slOf_d, ownL_l, ownG_l, ownG_d, rtO_l, rtO_d, seqI_l, seqI_t, seqI_s, seqI_b, b_addI, b_subI, b_mulI, b_modI, b_fdivI, b_addS, b_addT, b_mulS, b_mulT, b_addLL, b_mulL, b_pow1018, c_ltI, c_leI, c_gtI, c_geI, c_eqI, c_neI, c_eqS, c_neS, c_ltS, c_leS, c_gtS, c_geS, tr_bl, tr_int, tr_non, l_abs, l_int, l_intb, intOf_i, strOf_s, toVl_l, toVl_d, x_if, x_map, x_none, x_some, xb_if, List.getElem?_cons_zero, List.getElem?_cons_succ, List.set_cons_zero, List.set_cons_succ, List.map_cons, List.map_nil, wipeE, st1_n, st1_x, st1_e, Option.some.injEq, Sl.v.injEq, Sl.l.injEq, Sl.d.injEq, Vl.int.injEq, Vl.bl.injEq, Vl.str.injEq, exists_eq_left', exists_eq_left, true_and, and_true, if_true, reduceIte, Bool.not_true, Bool.not_false, Bool.true_eq_false, Bool.false_eq_true, if_false, decide_eq_true_eq, Bool.not_eq_true', decide_true, decide_false, Int.reducePow, Int.reduceNeg, Int.reduceLT, Int.reduceLE, or_true, true_or, and_self, List.all_nil, List.all_cons, List.length_nil, List.length_cons, Nat.zero_le, Nat.zero_add, Nat.reduceAdd, Bool.and_true, Bool.true_and, Bool.and_self, exists_const, Nat.reduceBneDiff, Nat.reduceLeDiff, notBorI, notBorS, notBorB, notBorT, notBorL, notBorO, notBorN, notBorD, notBorE]
  refine take_use (d := d + 1) h_take D1.dr (by omega) (by omega) fun q2 s2 a2 b2 D2 => ?_
  simp only [isS h_take, isS h_pick, p40, ev_bnd, ev_ret, s_cons, s_nil, s_nx, s_rt, s_ct, s_bk, ev_asg, ev_set, evE, evT, e_var, e_own, e_int, e_bl, e_str, e_non, e_gstr, e_gint, e_bin, e_idx, t_cmp, e_cmp, s_ite, s_ret, es_nil, es_cons, e_blt, e_tup, e_cal, t_nt, e_ite, t_ite, e_rev, e_atr, e_mkx, e_mkk, o_non, o_som, e_slc, e_fr, e_mko, f_cal, f_blt, s_retF, e_and, e_or, e_nt, e_neg, t_chn, e_chn, f_lst, e_isi, e_txt, s_par, i_seq, i_rng1, i_rng2, s_own, s_ins, s_app, s_setS, s_exp, s_for, s_frz, f_comp, f_slc, f_bin, f_disp, f_dnewK, c_non, c_som, t_var, t_idx, t_cal, t_blt, t_isi, t_bl, t_fr, t_txt, v_e, v_o, s_retO, s_pass, s_whl, ev_compF, ev_forB, endV_vl, endV_fr, ev_okV, ev_frozen, endF_fr, rtE_nx, rtE_rt, slOf_l, slOf_d, ownL_l, ownG_l, ownG_d, rtO_l, rtO_d, seqI_l, seqI_t, seqI_s, seqI_b, b_addI, b_subI, b_mulI, b_modI, b_fdivI, b_addS, b_addT, b_mulS, b_mulT, b_addLL, b_mulL, b_pow1018, c_ltI, c_leI, c_gtI, c_geI, c_eqI, c_neI, c_eqS, c_neS, c_ltS, c_leS, c_gtS, c_geS, tr_bl, tr_int, tr_non, l_abs, l_int, l_intb, intOf_i, strOf_s, toVl_l, toVl_d, x_if, x_map, x_none, x_some, xb_if, List.getElem?_cons_zero, List.getElem?_cons_succ, List.set_cons_zero, List.set_cons_succ, List.map_cons, List.map_nil, wipeE, st1_n, st1_x, st1_e, Option.some.injEq, Sl.v.injEq, Sl.l.injEq, Sl.d.injEq, Vl.int.injEq, Vl.bl.injEq, Vl.str.injEq, exists_eq_left', exists_eq_left, true_and, and_true, if_true, reduceIte, Bool.not_true, Bool.not_false, Bool.true_eq_false, Bool.false_eq_true, if_false, decide_eq_true_eq, Bool.not_eq_true', decide_true, decide_false, Int.reducePow, Int.reduceNeg, Int.reduceLT, Int.reduceLE, or_true, true_or, and_self, List.all_nil, List.all_cons, List.length_nil, List.length_cons, Nat.zero_le, Nat.zero_add, Nat.reduceAdd, Bool.and_true, Bool.true_and, Bool.and_self, exists_const, Nat.reduceBneDiff, Nat.reduceLeDiff, notBorI, notBorS, notBorB, notBorT, notBorL, notBorO, notBorN, notBorD, notBorE]
  refine ⟨by omega, ?_⟩
  refine take_use (d := d + 1) h_take D2.dr (by omega) (by omega) fun q3 s3 a3 b3 D3 => ?_
  obtain ⟨x, hx, e, _⟩ := i_seq_ok (st := s3) (xs := [.int 0, .int 7, .int (-1), .int (10000000000000000000000000000000000000000 - 1 - q1), .int q2]) a3 (by simp; omega)
  have hm := List.mem_of_getElem? hx
  obtain ⟨n, hn, rfl⟩ : ∃ n : Int, Bi n ∧ x = .int n := by
    simp only [List.mem_cons, List.not_mem_nil, or_false] at hm
    rcases hm with rfl | rfl | rfl | rfl | rfl
    · exact ⟨_, (by show Int.natAbs _ < 10 ^ 41; decide), rfl⟩
    · exact ⟨_, (by show Int.natAbs _ < 10 ^ 41; decide), rfl⟩
    · exact ⟨_, (by show Int.natAbs _ < 10 ^ 41; decide), rfl⟩
    · exact ⟨_, by show Int.natAbs _ < 10 ^ 41; omega, rfl⟩
    · exact ⟨_, by show Int.natAbs _ < 10 ^ 41; omega, rfl⟩
  have dis : dispO ["a"] [.int n] = some [(.inr "a", .int n)] := rfl
  simp only [e, l_str hn, dis, isS h_pick, ev_bnd, ev_ret, s_cons, s_nil, s_nx, s_rt, s_ct, s_bk, ev_asg, ev_set, evE, evT, e_var, e_own, e_int, e_bl, e_str, e_non, e_gstr, e_gint, e_bin, e_idx, t_cmp, e_cmp, s_ite, s_ret, es_nil, es_cons, e_blt, e_tup, e_cal, t_nt, e_ite, t_ite, e_rev, e_atr, e_mkx, e_mkk, o_non, o_som, e_slc, e_fr, e_mko, f_cal, f_blt, s_retF, e_and, e_or, e_nt, e_neg, t_chn, e_chn, f_lst, e_isi, e_txt, s_par, i_seq, i_rng1, i_rng2, s_own, s_ins, s_app, s_setS, s_exp, s_for, s_frz, f_comp, f_slc, f_bin, f_disp, f_dnewK, c_non, c_som, t_var, t_idx, t_cal, t_blt, t_isi, t_bl, t_fr, t_txt, v_e, v_o, s_retO, s_pass, s_whl, ev_compF, ev_forB, endV_vl, endV_fr, ev_okV, ev_frozen, endF_fr, rtE_nx, rtE_rt, slOf_l, slOf_d, ownL_l, ownG_l, ownG_d, rtO_l, rtO_d, seqI_l, seqI_t, seqI_s, seqI_b, b_addI, b_subI, b_mulI, b_modI, b_fdivI, b_addS, b_addT, b_mulS, b_mulT, b_addLL, b_mulL, b_pow1018, c_ltI, c_leI, c_gtI, c_geI, c_eqI, c_neI, c_eqS, c_neS, c_ltS, c_leS, c_gtS, c_geS, tr_bl, tr_int, tr_non, l_abs, l_int, l_intb, intOf_i, strOf_s, toVl_l, toVl_d, x_if, x_map, x_none, x_some, xb_if, List.getElem?_cons_zero, List.getElem?_cons_succ, List.set_cons_zero, List.set_cons_succ, List.map_cons, List.map_nil, wipeE, st1_n, st1_x, st1_e, Option.some.injEq, Sl.v.injEq, Sl.l.injEq, Sl.d.injEq, Vl.int.injEq, Vl.bl.injEq, Vl.str.injEq, exists_eq_left', exists_eq_left, true_and, and_true, if_true, reduceIte, Bool.not_true, Bool.not_false, Bool.true_eq_false, Bool.false_eq_true, if_false, decide_eq_true_eq, Bool.not_eq_true', decide_true, decide_false, Int.reducePow, Int.reduceNeg, Int.reduceLT, Int.reduceLE, or_true, true_or, and_self, List.all_nil, List.all_cons, List.length_nil, List.length_cons, Nat.zero_le, Nat.zero_add, Nat.reduceAdd, Bool.and_true, Bool.true_and, Bool.and_self, exists_const, Nat.reduceBneDiff, Nat.reduceLeDiff, notBorI, notBorS, notBorB, notBorT, notBorL, notBorO, notBorN, notBorD, notBorE]
  refine ⟨by omega, by omega, by omega, ?_⟩
  have tn := th_int hn
  have all : ∀ x ∈ [Vl.int n, .str (Str.ofString (toString n)), .str "", .str "a b", .bl true, .bl false, .non, .lst [.int n], .tup [.int n, .str "x"], .dk [(.inr "a", .int n)], .tup [], .lst [], .dk []], Th x := by
    intro x hx
    simp only [List.mem_cons, List.not_mem_nil, or_false] at hx
    rcases hx with rfl | rfl | rfl | rfl | rfl | rfl | rfl | rfl | rfl | rfl | rfl | rfl | rfl
    · exact tn
    · exact th_str (asc_int n) (by have := bi_len hn; omega)
    · exact th_str (by decide +kernel) (by decide +kernel)
    · exact th_str (by decide +kernel) (by decide +kernel)
    · exact th_bl _
    · exact th_bl _
    · exact th_non
    · exact th_lst hn
    · exact th_tup hn
    · exact th_dk hn
    · exact th_of_pl rfl (by decide) (by decide) rfl (fun i z => by cases z)
    · exact th_of_pl rfl (by decide) (by decide) rfl (fun i z => by cases z)
    · exact th_of_pl rfl (by decide) (by decide) rfl (fun i z => by cases z)
  refine pick_use (d := d) h_take h_pick D3.dr (by simp) (by simp) (fun x hx => (all x hx).nb) fun x s4 hx D4 => ?_
  simp only [(all x hx).nb, ev_bnd, ev_ret, s_cons, s_nil, s_nx, s_rt, s_ct, s_bk, ev_asg, ev_set, evE, evT, e_var, e_own, e_int, e_bl, e_str, e_non, e_gstr, e_gint, e_bin, e_idx, t_cmp, e_cmp, s_ite, s_ret, es_nil, es_cons, e_blt, e_tup, e_cal, t_nt, e_ite, t_ite, e_rev, e_atr, e_mkx, e_mkk, o_non, o_som, e_slc, e_fr, e_mko, f_cal, f_blt, s_retF, e_and, e_or, e_nt, e_neg, t_chn, e_chn, f_lst, e_isi, e_txt, s_par, i_seq, i_rng1, i_rng2, s_own, s_ins, s_app, s_setS, s_exp, s_for, s_frz, f_comp, f_slc, f_bin, f_disp, f_dnewK, c_non, c_som, t_var, t_idx, t_cal, t_blt, t_isi, t_bl, t_fr, t_txt, v_e, v_o, s_retO, s_pass, s_whl, ev_compF, ev_forB, endV_vl, endV_fr, ev_okV, ev_frozen, endF_fr, rtE_nx, rtE_rt, slOf_l, slOf_d, ownL_l, ownG_l, ownG_d, rtO_l, rtO_d, seqI_l, seqI_t, seqI_s, seqI_b, b_addI, b_subI, b_mulI, b_modI, b_fdivI, b_addS, b_addT, b_mulS, b_mulT, b_addLL, b_mulL, b_pow1018, c_ltI, c_leI, c_gtI, c_geI, c_eqI, c_neI, c_eqS, c_neS, c_ltS, c_leS, c_gtS, c_geS, tr_bl, tr_int, tr_non, l_abs, l_int, l_intb, intOf_i, strOf_s, toVl_l, toVl_d, x_if, x_map, x_none, x_some, xb_if, List.getElem?_cons_zero, List.getElem?_cons_succ, List.set_cons_zero, List.set_cons_succ, List.map_cons, List.map_nil, wipeE, st1_n, st1_x, st1_e, Option.some.injEq, Sl.v.injEq, Sl.l.injEq, Sl.d.injEq, Vl.int.injEq, Vl.bl.injEq, Vl.str.injEq, exists_eq_left', exists_eq_left, true_and, and_true, if_true, reduceIte, Bool.not_true, Bool.not_false, Bool.true_eq_false, Bool.false_eq_true, if_false, decide_eq_true_eq, Bool.not_eq_true', decide_true, decide_false, Int.reducePow, Int.reduceNeg, Int.reduceLT, Int.reduceLE, or_true, true_or, and_self, List.all_nil, List.all_cons, List.length_nil, List.length_cons, Nat.zero_le, Nat.zero_add, Nat.reduceAdd, Bool.and_true, Bool.true_and, Bool.and_self, exists_const, Nat.reduceBneDiff, Nat.reduceLeDiff, notBorI, notBorS, notBorB, notBorT, notBorL, notBorO, notBorN, notBorD, notBorE]
  exact k x s4 (all x hx) (((D1.trans D2).trans D3).trans D4)
/-- the w-th error -/
def nmE (w : Int) : Str := errN.getD w.toNat ""
theorem pre_len (n : Str) : (preOf n).length ≤ 30 := by
  unfold preOf
  repeat (split; · decide +kernel)
  decide +kernel
theorem mk_th {n : Str} {x : Vl} {st : Sto} (h : Th x) : mkX n st x = some (.err n x) := by
  obtain ⟨z, hz, _, hl⟩ := h.rp
  have := pre_len n
  have sz := sz24
  show (match bltM .repr st [x] with
    | some (.str z) => if (preOf n).length + z.length ≤ sizeLine ∧ notBor x = true then some (Vl.err n x) else none
    | _ => none) = _
  rw [hz st]
  show (if (preOf n).length + z.length ≤ sizeLine ∧ notBor x = true then some (Vl.err n x) else none) = _
  rw [if_pos ⟨by omega, h.nb⟩]
theorem at_th {n f : Str} {x : Vl} {st : Sto} (hf : f = attrOf n ∧ n ∈ cls ∧ n ∈ errN) : atrM cls st (.err n x) f = some x := by
  show (if f = attrOf n ∧ n ∈ cls ∧ n ∈ errN then some x else none) = _
  rw [if_pos hf]
theorem er_ok {d : Nat} {n : Str} (h : n ∈ cls ∧ n ∈ errN) : (CaD tb cls 100 (d + 2)).err n = true := by
  show (decide (2 ≤ d + 2) && (decide (n ∈ cls) && decide (n ∈ errN))) = true
  simp [h.1, h.2]
theorem first_pu {d : Nat} {w : Int} {x : Vl} {b : Bool} {st : Sto} (h0 : 0 ≤ w) (h1 : w < 6) (h : Th x) : Pu (callD tb cls 100 (d + 3) "_law_first" [.int w, x, .bl b]) st (.vl (.tup [.err (nmE w) x, x])) := by
  refine pu_ev ?_
  rw [call_eq h_first rfl (Nat.le_of_ble_eq_true rfl), ev_bnd]
  have sz := sz24
  have hw : w = 0 ∨ w = 1 ∨ w = 2 ∨ w = 3 ∨ w = 4 ∨ w = 5 := by omega
  rcases hw with rfl | rfl | rfl | rfl | rfl | rfl <;> cases b
  all_goals
    simp only [f__law_first, mk_th h, h.nb, Int.reduceEq, ev_bnd, ev_ret, s_cons, s_nil, s_nx, s_rt, s_ct, s_bk, ev_asg, ev_set, evE, evT, e_var, e_own, e_int, e_bl, e_str, e_non, e_gstr, e_gint, e_bin, e_idx, t_cmp, e_cmp, s_ite, s_ret, es_nil, es_cons, e_blt, e_tup, e_cal, t_nt, e_ite, t_ite, e_rev, e_atr, e_mkx, e_mkk, o_non, o_som, e_slc, e_fr, e_mko, f_cal, f_blt, s_retF, e_and, e_or, e_nt, e_neg, t_chn, e_chn, f_lst, e_isi, e_txt, s_par, i_seq, i_rng1, i_rng2, s_own, s_ins, s_app, s_setS, s_exp, s_for, s_frz, f_comp, f_slc, f_bin, f_disp, f_dnewK, c_non, c_som, t_var, t_idx, t_cal, t_blt, t_isi, t_bl, t_fr, t_txt, v_e, v_o, s_retO, s_pass, s_whl, ev_compF, ev_forB, endV_vl, endV_fr, ev_okV, ev_frozen, endF_fr, rtE_nx, rtE_rt, slOf_l, slOf_d, ownL_l, ownG_l, ownG_d, rtO_l, rtO_d, seqI_l, seqI_t, seqI_s, seqI_b, b_addI, b_subI, b_mulI, b_modI, b_fdivI, b_addS, b_addT, b_mulS, b_mulT, b_addLL, b_mulL, b_pow1018, c_ltI, c_leI, c_gtI, c_geI, c_eqI, c_neI, c_eqS, c_neS, c_ltS, c_leS, c_gtS, c_geS, tr_bl, tr_int, tr_non, l_abs, l_int, l_intb, intOf_i, strOf_s, toVl_l, toVl_d, x_if, x_map, x_none, x_some, xb_if, List.getElem?_cons_zero, List.getElem?_cons_succ, List.set_cons_zero, List.set_cons_succ, List.map_cons, List.map_nil, wipeE, st1_n, st1_x, st1_e, Option.some.injEq, Sl.v.injEq, Sl.l.injEq, Sl.d.injEq, Vl.int.injEq, Vl.bl.injEq, Vl.str.injEq, exists_eq_left', exists_eq_left, true_and, and_true, if_true, reduceIte, Bool.not_true, Bool.not_false, Bool.true_eq_false, Bool.false_eq_true, if_false, decide_eq_true_eq, Bool.not_eq_true', decide_true, decide_false, Int.reducePow, Int.reduceNeg, Int.reduceLT, Int.reduceLE, or_true, true_or, and_self, List.all_nil, List.all_cons, List.length_nil, List.length_cons, Nat.zero_le, Nat.zero_add, Nat.reduceAdd, Bool.and_true, Bool.true_and, Bool.and_self, exists_const, Nat.reduceBneDiff, Nat.reduceLeDiff, notBorI, notBorS, notBorB, notBorT, notBorL, notBorO, notBorN, notBorD, notBorE]
    refine ⟨by decide +kernel, x, at_th (by decide +kernel), ⟨by omega, h.nb⟩, rfl⟩
theorem last_pu {d : Nat} {w : Int} {x : Vl} {b : Bool} {st : Sto} (h0 : 6 ≤ w) (h1 : w < 12) (h : Th x) : Pu (callD tb cls 100 (d + 3) "_law_last" [.int w, x, .bl b]) st (.vl (.tup [.err (nmE w) x, x])) := by
  refine pu_ev ?_
  rw [call_eq h_last rfl (Nat.le_of_ble_eq_true rfl), ev_bnd]
  have sz := sz24
  have hw : w = 6 ∨ w = 7 ∨ w = 8 ∨ w = 9 ∨ w = 10 ∨ w = 11 := by omega
  rcases hw with rfl | rfl | rfl | rfl | rfl | rfl <;> cases b
  all_goals
    simp only [f__law_last, mk_th h, h.nb, Int.reduceEq, ev_bnd, ev_ret, s_cons, s_nil, s_nx, s_rt, s_ct, s_bk, ev_asg, ev_set, evE, evT, e_var, e_own, e_int, e_bl, e_str, e_non, e_gstr, e_gint, e_bin, e_idx, t_cmp, e_cmp, s_ite, s_ret, es_nil, es_cons, e_blt, e_tup, e_cal, t_nt, e_ite, t_ite, e_rev, e_atr, e_mkx, e_mkk, o_non, o_som, e_slc, e_fr, e_mko, f_cal, f_blt, s_retF, e_and, e_or, e_nt, e_neg, t_chn, e_chn, f_lst, e_isi, e_txt, s_par, i_seq, i_rng1, i_rng2, s_own, s_ins, s_app, s_setS, s_exp, s_for, s_frz, f_comp, f_slc, f_bin, f_disp, f_dnewK, c_non, c_som, t_var, t_idx, t_cal, t_blt, t_isi, t_bl, t_fr, t_txt, v_e, v_o, s_retO, s_pass, s_whl, ev_compF, ev_forB, endV_vl, endV_fr, ev_okV, ev_frozen, endF_fr, rtE_nx, rtE_rt, slOf_l, slOf_d, ownL_l, ownG_l, ownG_d, rtO_l, rtO_d, seqI_l, seqI_t, seqI_s, seqI_b, b_addI, b_subI, b_mulI, b_modI, b_fdivI, b_addS, b_addT, b_mulS, b_mulT, b_addLL, b_mulL, b_pow1018, c_ltI, c_leI, c_gtI, c_geI, c_eqI, c_neI, c_eqS, c_neS, c_ltS, c_leS, c_gtS, c_geS, tr_bl, tr_int, tr_non, l_abs, l_int, l_intb, intOf_i, strOf_s, toVl_l, toVl_d, x_if, x_map, x_none, x_some, xb_if, List.getElem?_cons_zero, List.getElem?_cons_succ, List.set_cons_zero, List.set_cons_succ, List.map_cons, List.map_nil, wipeE, st1_n, st1_x, st1_e, Option.some.injEq, Sl.v.injEq, Sl.l.injEq, Sl.d.injEq, Vl.int.injEq, Vl.bl.injEq, Vl.str.injEq, exists_eq_left', exists_eq_left, true_and, and_true, if_true, reduceIte, Bool.not_true, Bool.not_false, Bool.true_eq_false, Bool.false_eq_true, if_false, decide_eq_true_eq, Bool.not_eq_true', decide_true, decide_false, Int.reducePow, Int.reduceNeg, Int.reduceLT, Int.reduceLE, or_true, true_or, and_self, List.all_nil, List.all_cons, List.length_nil, List.length_cons, Nat.zero_le, Nat.zero_add, Nat.reduceAdd, Bool.and_true, Bool.true_and, Bool.and_self, exists_const, Nat.reduceBneDiff, Nat.reduceLeDiff, notBorI, notBorS, notBorB, notBorT, notBorL, notBorO, notBorN, notBorD, notBorE]
    refine ⟨by decide +kernel, x, at_th (by decide +kernel), ⟨by omega, h.nb⟩, rfl⟩
theorem is_all : ∀ n ∈ errN, ∀ m ∈ errN, isas (.own n) (subC cls) [.own m] = some (decide (n = m)) := by decide +kernel
theorem is_lge : ∀ n ∈ errN, isas (.own n) (subC cls) [.own "LetGoError"] = some true := by decide +kernel
theorem is_ve : ∀ n ∈ errN, isas (.own n) (subC cls) [.ty "ValueError"] = some true := by decide +kernel
theorem in_cls : ∀ n ∈ errN, n ∈ cls := by decide +kernel
theorem isi_of {n : Str} {x : Vl} {st : Sto} {cs : List Cn} {b : Bool} (hn : n ∈ errN) (h : isas (.own n) (subC cls) cs = some b) : isiM cls cs st (.err n x) = some (.bl b) := by
  have e : tyM st (.err n x) = some (.own n) := by
    show (if n ∈ errN then some (Cn.own n) else none) = _
    rw [if_pos hn]
  show (match tyM st (.err n x) with
    | some t => if okC cls t then (isas t (subC cls) cs).map Vl.bl else none
    | none => none) = _
  rw [e]
  have o : okC cls (.own n) = true := decide_eq_true (in_cls n hn)
  show (if okC cls (.own n) = true then (isas (.own n) (subC cls) cs).map Vl.bl else none) = _
  rw [if_pos o, h]
  rfl
theorem marks_pu {d : Nat} {n : Str} {x : Vl} {st : Sto} (hn : n ∈ errN) : Pu (callD tb cls 100 (d + 3) "_law_marks" [.err n x]) st (.vl (.lst (errN.map fun m => Vl.bl (decide (n = m))))) := by
  refine pu_ev ?_
  rw [call_eq h_marks rfl (Nat.le_of_ble_eq_true rfl), ev_bnd]
  have sz := sz24
  have i : ∀ m ∈ errN, ∀ st, isiM cls [.own m] st (.err n x) = some (.bl (decide (n = m))) := fun m hm st => isi_of hn (is_all n hn m hm)
  have i1 := i "BadProgram" (by decide +kernel)
  have i2 := i "NoProcedure" (by decide +kernel)
  have i3 := i "BadState" (by decide +kernel)
  have i4 := i "BadMove" (by decide +kernel)
  have i5 := i "BadPoint" (by decide +kernel)
  have i6 := i "BadStretch" (by decide +kernel)
  have i7 := i "NoStep" (by decide +kernel)
  have i8 := i "BadWidening" (by decide +kernel)
  have i9 := i "TooMany" (by decide +kernel)
  have i10 := i "BadEdit" (by decide +kernel)
  have i11 := i "BadJournal" (by decide +kernel)
  have i12 := i "BadText" (by decide +kernel)
  simp only [f__law_marks, i1, i2, i3, i4, i5, i6, i7, i8, i9, i10, i11, i12, ev_bnd, ev_ret, s_cons, s_nil, s_nx, s_rt, s_ct, s_bk, ev_asg, ev_set, evE, evT, e_var, e_own, e_int, e_bl, e_str, e_non, e_gstr, e_gint, e_bin, e_idx, t_cmp, e_cmp, s_ite, s_ret, es_nil, es_cons, e_blt, e_tup, e_cal, t_nt, e_ite, t_ite, e_rev, e_atr, e_mkx, e_mkk, o_non, o_som, e_slc, e_fr, e_mko, f_cal, f_blt, s_retF, e_and, e_or, e_nt, e_neg, t_chn, e_chn, f_lst, e_isi, e_txt, s_par, i_seq, i_rng1, i_rng2, s_own, s_ins, s_app, s_setS, s_exp, s_for, s_frz, f_comp, f_slc, f_bin, f_disp, f_dnewK, c_non, c_som, t_var, t_idx, t_cal, t_blt, t_isi, t_bl, t_fr, t_txt, v_e, v_o, s_retO, s_pass, s_whl, ev_compF, ev_forB, endV_vl, endV_fr, ev_okV, ev_frozen, endF_fr, rtE_nx, rtE_rt, slOf_l, slOf_d, ownL_l, ownG_l, ownG_d, rtO_l, rtO_d, seqI_l, seqI_t, seqI_s, seqI_b, b_addI, b_subI, b_mulI, b_modI, b_fdivI, b_addS, b_addT, b_mulS, b_mulT, b_addLL, b_mulL, b_pow1018, c_ltI, c_leI, c_gtI, c_geI, c_eqI, c_neI, c_eqS, c_neS, c_ltS, c_leS, c_gtS, c_geS, tr_bl, tr_int, tr_non, l_abs, l_int, l_intb, intOf_i, strOf_s, toVl_l, toVl_d, x_if, x_map, x_none, x_some, xb_if, List.getElem?_cons_zero, List.getElem?_cons_succ, List.set_cons_zero, List.set_cons_succ, List.map_cons, List.map_nil, wipeE, st1_n, st1_x, st1_e, Option.some.injEq, Sl.v.injEq, Sl.l.injEq, Sl.d.injEq, Vl.int.injEq, Vl.bl.injEq, Vl.str.injEq, exists_eq_left', exists_eq_left, true_and, and_true, if_true, reduceIte, Bool.not_true, Bool.not_false, Bool.true_eq_false, Bool.false_eq_true, if_false, decide_eq_true_eq, Bool.not_eq_true', decide_true, decide_false, Int.reducePow, Int.reduceNeg, Int.reduceLT, Int.reduceLE, or_true, true_or, and_self, List.all_nil, List.all_cons, List.length_nil, List.length_cons, Nat.zero_le, Nat.zero_add, Nat.reduceAdd, Bool.and_true, Bool.true_and, Bool.and_self, exists_const, Nat.reduceBneDiff, Nat.reduceLeDiff, notBorI, notBorS, notBorB, notBorT, notBorL, notBorO, notBorN, notBorD, notBorE]
  repeat' apply And.intro
  all_goals first | (rw [sz]; exact Nat.le_of_ble_eq_true rfl) | rfl
/-- the marks that are right -/
theorem marks_eq {w : Int} {st : Sto} (h0 : 0 ≤ w) (h1 : w < 12) : cmpA .ne st (.lst (errN.map fun m => Vl.bl (decide (nmE w = m)))) (.lst (((List.range 12).map fun i => (0 + (i : Nat) : Int)).map fun k => Vl.bl (decide (k = w)))) = some false := by
  have hw : w = 0 ∨ w = 1 ∨ w = 2 ∨ w = 3 ∨ w = 4 ∨ w = 5 ∨ w = 6 ∨ w = 7 ∨ w = 8 ∨ w = 9 ∨ w = 10 ∨ w = 11 := by omega
  rcases hw with rfl | rfl | rfl | rfl | rfl | rfl | rfl | rfl | rfl | rfl | rfl | rfl <;> rfl
theorem nm_in {w : Int} (h0 : 0 ≤ w) (h1 : w < 12) : nmE w ∈ errN := by
  have hw : w = 0 ∨ w = 1 ∨ w = 2 ∨ w = 3 ∨ w = 4 ∨ w = 5 ∨ w = 6 ∨ w = 7 ∨ w = 8 ∨ w = 9 ∨ w = 10 ∨ w = 11 := by omega
  rcases hw with rfl | rfl | rfl | rfl | rfl | rfl | rfl | rfl | rfl | rfl | rfl | rfl <;> decide +kernel
end Lw

set_option Elab.async false
set_option linter.all false
set_option maxRecDepth 100000
set_option maxHeartbeats 8000000
namespace Lw
open PySem L2 LG PyProof.Rows
open PySem.PyData (strOk)
theorem law_ok (ns : List Int) : Ev1 (callD tb cls 100 100 "law" [.scr (ns.map .int)]) [] (fun r _ => r = .vl (.bl true)) := by
  rw [call_eq (d := 99) h_law rfl (Nat.le_of_ble_eq_true rfl), ev_bnd]
  have sz := sz24
  simp only [f_law, isS h_begin, ev_bnd, ev_ret, s_cons, s_nil, s_nx, s_rt, s_ct, s_bk, ev_asg, ev_set, evE, evT, e_var, e_own, e_int, e_bl, e_str, e_non, e_gstr, e_gint, e_bin, e_idx, t_cmp, e_cmp, s_ite, s_ret, es_nil, es_cons, e_blt, e_tup, e_cal, t_nt, e_ite, t_ite, e_rev, e_atr, e_mkx, e_mkk, o_non, o_som, e_slc, e_fr, e_mko, f_cal, f_blt, s_retF, e_and, e_or, e_nt, e_neg, t_chn, e_chn, f_lst, e_isi, e_txt, s_par, i_seq, i_rng1, i_rng2, s_own, s_ins, s_app, s_setS, s_exp, s_for, s_frz, f_comp, f_slc, f_bin, f_disp, f_dnewK, c_non, c_som, t_var, t_idx, t_cal, t_blt, t_isi, t_bl, t_fr, t_txt, v_e, v_o, s_retO, s_pass, s_whl, ev_compF, ev_forB, endV_vl, endV_fr, ev_okV, ev_frozen, endF_fr, rtE_nx, rtE_rt, slOf_l, slOf_d, ownL_l, ownG_l, ownG_d, rtO_l, rtO_d, seqI_l, seqI_t, seqI_s, seqI_b, b_addI, b_subI, b_mulI, b_modI, b_fdivI, b_addS, b_addT, b_mulS, b_mulT, b_addLL, b_mulL, b_pow1018, c_ltI, c_leI, c_gtI, c_geI, c_eqI, c_neI, c_eqS, c_neS, c_ltS, c_leS, c_gtS, c_geS, tr_bl, tr_int, tr_non, l_abs, l_int, l_intb, intOf_i, strOf_s, toVl_l, toVl_d, x_if, x_map, x_none, x_some, xb_if, List.getElem?_cons_zero, List.getElem?_cons_succ, List.set_cons_zero, List.set_cons_succ, List.map_cons, List.map_nil, wipeE, st1_n, st1_x, st1_e, Option.some.injEq, Sl.v.injEq, Sl.l.injEq, Sl.d.injEq, Vl.int.injEq, Vl.bl.injEq, Vl.str.injEq, exists_eq_left', exists_eq_left, true_and, and_true, if_true, reduceIte, Bool.not_true, Bool.not_false, Bool.true_eq_false, Bool.false_eq_true, if_false, decide_eq_true_eq, Bool.not_eq_true', decide_true, decide_false, Int.reducePow, Int.reduceNeg, Int.reduceLT, Int.reduceLE, or_true, true_or, and_self, List.all_nil, List.all_cons, List.length_nil, List.length_cons, Nat.zero_le, Nat.zero_add, Nat.reduceAdd, Bool.and_true, Bool.true_and, Bool.and_self, exists_const, Nat.reduceBneDiff, Nat.reduceLeDiff, notBorI, notBorS, notBorB, notBorT, notBorL, notBorO, notBorN, notBorD, notBorE, t_and, t_or]
  refine begin_use (d := 98) h_begin fun cs c1 c2 c3 => ?_
  have d0 : Dr ([.lst (cs.map .int), .dk [(.inr "cells", .obj 0), (.inr "at", .int 0), (.inr "mix", .int 1)]] : Sto) 1 0 := ⟨cs, 0, 1, by decide, c1, c2, c3, by decide, by decide, by decide, rfl, rfl⟩
  simp only [List.nil_append, List.cons_append, ev_bnd, ev_ret, s_cons, s_nil, s_nx, s_rt, s_ct, s_bk, ev_asg, ev_set, evE, evT, e_var, e_own, e_int, e_bl, e_str, e_non, e_gstr, e_gint, e_bin, e_idx, t_cmp, e_cmp, s_ite, s_ret, es_nil, es_cons, e_blt, e_tup, e_cal, t_nt, e_ite, t_ite, e_rev, e_atr, e_mkx, e_mkk, o_non, o_som, e_slc, e_fr, e_mko, f_cal, f_blt, s_retF, e_and, e_or, e_nt, e_neg, t_chn, e_chn, f_lst, e_isi, e_txt, s_par, i_seq, i_rng1, i_rng2, s_own, s_ins, s_app, s_setS, s_exp, s_for, s_frz, f_comp, f_slc, f_bin, f_disp, f_dnewK, c_non, c_som, t_var, t_idx, t_cal, t_blt, t_isi, t_bl, t_fr, t_txt, v_e, v_o, s_retO, s_pass, s_whl, ev_compF, ev_forB, endV_vl, endV_fr, ev_okV, ev_frozen, endF_fr, rtE_nx, rtE_rt, slOf_l, slOf_d, ownL_l, ownG_l, ownG_d, rtO_l, rtO_d, seqI_l, seqI_t, seqI_s, seqI_b, b_addI, b_subI, b_mulI, b_modI, b_fdivI, b_addS, b_addT, b_mulS, b_mulT, b_addLL, b_mulL, b_pow1018, c_ltI, c_leI, c_gtI, c_geI, c_eqI, c_neI, c_eqS, c_neS, c_ltS, c_leS, c_gtS, c_geS, tr_bl, tr_int, tr_non, l_abs, l_int, l_intb, intOf_i, strOf_s, toVl_l, toVl_d, x_if, x_map, x_none, x_some, xb_if, List.getElem?_cons_zero, List.getElem?_cons_succ, List.set_cons_zero, List.set_cons_succ, List.map_cons, List.map_nil, wipeE, st1_n, st1_x, st1_e, Option.some.injEq, Sl.v.injEq, Sl.l.injEq, Sl.d.injEq, Vl.int.injEq, Vl.bl.injEq, Vl.str.injEq, exists_eq_left', exists_eq_left, true_and, and_true, if_true, reduceIte, Bool.not_true, Bool.not_false, Bool.true_eq_false, Bool.false_eq_true, if_false, decide_eq_true_eq, Bool.not_eq_true', decide_true, decide_false, Int.reducePow, Int.reduceNeg, Int.reduceLT, Int.reduceLE, or_true, true_or, and_self, List.all_nil, List.all_cons, List.length_nil, List.length_cons, Nat.zero_le, Nat.zero_add, Nat.reduceAdd, Bool.and_true, Bool.true_and, Bool.and_self, exists_const, Nat.reduceBneDiff, Nat.reduceLeDiff, notBorI, notBorS, notBorB, notBorT, notBorL, notBorO, notBorN, notBorD, notBorE, t_and, t_or]
  refine for_inv (fun rest r s => (∀ y ∈ rest, notBor y = true) ∧ Dr s 1 0 ∧ ∃ s2 s3 s4 s5 s6 s7 : Sl, r = [.v (.scr (ns.map .int)), .v (.obj 1), s2, s3, s4, s5, s6, s7]) ?_ ?_ _ _ _ ⟨(fun y hy => by obtain ⟨a, _, rfl⟩ := List.mem_map.mp hy; rfl), d0, _, _, _, _, _, _, rfl⟩
  · rintro y rest r s ⟨hn, D, s2, s3, s4, s5, s6, s7, rfl⟩
    simp only [hn y (by simp), ev_bnd, ev_ret, s_cons, s_nil, s_nx, s_rt, s_ct, s_bk, ev_asg, ev_set, evE, evT, e_var, e_own, e_int, e_bl, e_str, e_non, e_gstr, e_gint, e_bin, e_idx, t_cmp, e_cmp, s_ite, s_ret, es_nil, es_cons, e_blt, e_tup, e_cal, t_nt, e_ite, t_ite, e_rev, e_atr, e_mkx, e_mkk, o_non, o_som, e_slc, e_fr, e_mko, f_cal, f_blt, s_retF, e_and, e_or, e_nt, e_neg, t_chn, e_chn, f_lst, e_isi, e_txt, s_par, i_seq, i_rng1, i_rng2, s_own, s_ins, s_app, s_setS, s_exp, s_for, s_frz, f_comp, f_slc, f_bin, f_disp, f_dnewK, c_non, c_som, t_var, t_idx, t_cal, t_blt, t_isi, t_bl, t_fr, t_txt, v_e, v_o, s_retO, s_pass, s_whl, ev_compF, ev_forB, endV_vl, endV_fr, ev_okV, ev_frozen, endF_fr, rtE_nx, rtE_rt, slOf_l, slOf_d, ownL_l, ownG_l, ownG_d, rtO_l, rtO_d, seqI_l, seqI_t, seqI_s, seqI_b, b_addI, b_subI, b_mulI, b_modI, b_fdivI, b_addS, b_addT, b_mulS, b_mulT, b_addLL, b_mulL, b_pow1018, c_ltI, c_leI, c_gtI, c_geI, c_eqI, c_neI, c_eqS, c_neS, c_ltS, c_leS, c_gtS, c_geS, tr_bl, tr_int, tr_non, l_abs, l_int, l_intb, intOf_i, strOf_s, toVl_l, toVl_d, x_if, x_map, x_none, x_some, xb_if, List.getElem?_cons_zero, List.getElem?_cons_succ, List.set_cons_zero, List.set_cons_succ, List.map_cons, List.map_nil, wipeE, st1_n, st1_x, st1_e, Option.some.injEq, Sl.v.injEq, Sl.l.injEq, Sl.d.injEq, Vl.int.injEq, Vl.bl.injEq, Vl.str.injEq, exists_eq_left', exists_eq_left, true_and, and_true, if_true, reduceIte, Bool.not_true, Bool.not_false, Bool.true_eq_false, Bool.false_eq_true, if_false, decide_eq_true_eq, Bool.not_eq_true', decide_true, decide_false, Int.reducePow, Int.reduceNeg, Int.reduceLT, Int.reduceLE, or_true, true_or, and_self, List.all_nil, List.all_cons, List.length_nil, List.length_cons, Nat.zero_le, Nat.zero_add, Nat.reduceAdd, Bool.and_true, Bool.true_and, Bool.and_self, exists_const, Nat.reduceBneDiff, Nat.reduceLeDiff, notBorI, notBorS, notBorB, notBorT, notBorL, notBorO, notBorN, notBorD, notBorE, t_and, t_or]
    refine for_inv (fun rest r s => (∀ y ∈ rest, ∃ w : Int, 0 ≤ w ∧ w < 12 ∧ y = .int w) ∧ Dr s 1 0 ∧ ∃ s2 s3 s4 s5 s6 s7 : Sl, r = [.v (.scr (ns.map .int)), .v (.obj 1), s2, s3, s4, s5, s6, s7]) ?_ ?_ _ _ _ ⟨(fun y hy => by
      obtain ⟨a, ha, rfl⟩ := List.mem_map.mp hy
      have := List.mem_range.mp ha
      exact ⟨_, by omega, by have : (12 : Int).toNat = 12 := rfl; omega, rfl⟩), D, _, _, _, _, _, _, rfl⟩
    · rintro y rest r s ⟨hw, D, s2, s3, s4, s5, s6, s7, rfl⟩
      obtain ⟨w, w0, w1, rfl⟩ := hw y (by simp)
      simp only [isS h_thing, isS h_take, ev_bnd, ev_ret, s_cons, s_nil, s_nx, s_rt, s_ct, s_bk, ev_asg, ev_set, evE, evT, e_var, e_own, e_int, e_bl, e_str, e_non, e_gstr, e_gint, e_bin, e_idx, t_cmp, e_cmp, s_ite, s_ret, es_nil, es_cons, e_blt, e_tup, e_cal, t_nt, e_ite, t_ite, e_rev, e_atr, e_mkx, e_mkk, o_non, o_som, e_slc, e_fr, e_mko, f_cal, f_blt, s_retF, e_and, e_or, e_nt, e_neg, t_chn, e_chn, f_lst, e_isi, e_txt, s_par, i_seq, i_rng1, i_rng2, s_own, s_ins, s_app, s_setS, s_exp, s_for, s_frz, f_comp, f_slc, f_bin, f_disp, f_dnewK, c_non, c_som, t_var, t_idx, t_cal, t_blt, t_isi, t_bl, t_fr, t_txt, v_e, v_o, s_retO, s_pass, s_whl, ev_compF, ev_forB, endV_vl, endV_fr, ev_okV, ev_frozen, endF_fr, rtE_nx, rtE_rt, slOf_l, slOf_d, ownL_l, ownG_l, ownG_d, rtO_l, rtO_d, seqI_l, seqI_t, seqI_s, seqI_b, b_addI, b_subI, b_mulI, b_modI, b_fdivI, b_addS, b_addT, b_mulS, b_mulT, b_addLL, b_mulL, b_pow1018, c_ltI, c_leI, c_gtI, c_geI, c_eqI, c_neI, c_eqS, c_neS, c_ltS, c_leS, c_gtS, c_geS, tr_bl, tr_int, tr_non, l_abs, l_int, l_intb, intOf_i, strOf_s, toVl_l, toVl_d, x_if, x_map, x_none, x_some, xb_if, List.getElem?_cons_zero, List.getElem?_cons_succ, List.set_cons_zero, List.set_cons_succ, List.map_cons, List.map_nil, wipeE, st1_n, st1_x, st1_e, Option.some.injEq, Sl.v.injEq, Sl.l.injEq, Sl.d.injEq, Vl.int.injEq, Vl.bl.injEq, Vl.str.injEq, exists_eq_left', exists_eq_left, true_and, and_true, if_true, reduceIte, Bool.not_true, Bool.not_false, Bool.true_eq_false, Bool.false_eq_true, if_false, decide_eq_true_eq, Bool.not_eq_true', decide_true, decide_false, Int.reducePow, Int.reduceNeg, Int.reduceLT, Int.reduceLE, or_true, true_or, and_self, List.all_nil, List.all_cons, List.length_nil, List.length_cons, Nat.zero_le, Nat.zero_add, Nat.reduceAdd, Bool.and_true, Bool.true_and, Bool.and_self, exists_const, Nat.reduceBneDiff, Nat.reduceLeDiff, notBorI, notBorS, notBorB, notBorT, notBorL, notBorO, notBorN, notBorD, notBorE, t_and, t_or]
      refine thing_use (d := 96) D fun x s1 tx D1 => ?_
      simp only [tx.nb, isS h_take, ev_bnd, ev_ret, s_cons, s_nil, s_nx, s_rt, s_ct, s_bk, ev_asg, ev_set, evE, evT, e_var, e_own, e_int, e_bl, e_str, e_non, e_gstr, e_gint, e_bin, e_idx, t_cmp, e_cmp, s_ite, s_ret, es_nil, es_cons, e_blt, e_tup, e_cal, t_nt, e_ite, t_ite, e_rev, e_atr, e_mkx, e_mkk, o_non, o_som, e_slc, e_fr, e_mko, f_cal, f_blt, s_retF, e_and, e_or, e_nt, e_neg, t_chn, e_chn, f_lst, e_isi, e_txt, s_par, i_seq, i_rng1, i_rng2, s_own, s_ins, s_app, s_setS, s_exp, s_for, s_frz, f_comp, f_slc, f_bin, f_disp, f_dnewK, c_non, c_som, t_var, t_idx, t_cal, t_blt, t_isi, t_bl, t_fr, t_txt, v_e, v_o, s_retO, s_pass, s_whl, ev_compF, ev_forB, endV_vl, endV_fr, ev_okV, ev_frozen, endF_fr, rtE_nx, rtE_rt, slOf_l, slOf_d, ownL_l, ownG_l, ownG_d, rtO_l, rtO_d, seqI_l, seqI_t, seqI_s, seqI_b, b_addI, b_subI, b_mulI, b_modI, b_fdivI, b_addS, b_addT, b_mulS, b_mulT, b_addLL, b_mulL, b_pow1018, c_ltI, c_leI, c_gtI, c_geI, c_eqI, c_neI, c_eqS, c_neS, c_ltS, c_leS, c_gtS, c_geS, tr_bl, tr_int, tr_non, l_abs, l_int, l_intb, intOf_i, strOf_s, toVl_l, toVl_d, x_if, x_map, x_none, x_some, xb_if, List.getElem?_cons_zero, List.getElem?_cons_succ, List.set_cons_zero, List.set_cons_succ, List.map_cons, List.map_nil, wipeE, st1_n, st1_x, st1_e, Option.some.injEq, Sl.v.injEq, Sl.l.injEq, Sl.d.injEq, Vl.int.injEq, Vl.bl.injEq, Vl.str.injEq, exists_eq_left', exists_eq_left, true_and, and_true, if_true, reduceIte, Bool.not_true, Bool.not_false, Bool.true_eq_false, Bool.false_eq_true, if_false, decide_eq_true_eq, Bool.not_eq_true', decide_true, decide_false, Int.reducePow, Int.reduceNeg, Int.reduceLT, Int.reduceLE, or_true, true_or, and_self, List.all_nil, List.all_cons, List.length_nil, List.length_cons, Nat.zero_le, Nat.zero_add, Nat.reduceAdd, Bool.and_true, Bool.true_and, Bool.and_self, exists_const, Nat.reduceBneDiff, Nat.reduceLeDiff, notBorI, notBorS, notBorB, notBorT, notBorL, notBorO, notBorN, notBorD, notBorE, t_and, t_or]
      refine take_use (d := 98) h_take D1.dr (by omega) (by omega) fun q s2' q0 q1 D2 => ?_
      obtain ⟨z, hz, zo, _⟩ := tx.rp
      have nn := nm_in w0 w1
      have ne : ∀ st, cmpA .ne st (.str z) (.str z) = some false := fun st => by rw [c_neS zo zo]; simp
      have i1 : ∀ st, isiM cls [.own "LetGoError"] st (.err (nmE w) x) = some (.bl true) := fun st => isi_of nn (is_lge _ nn)
      have i2 : ∀ st, isiM cls [.ty "ValueError"] st (.err (nmE w) x) = some (.bl true) := fun st => isi_of nn (is_ve _ nn)
      have x0 : ∀ st, idxM st (.tup [.err (nmE w) x, x]) (.int 0) = some (.err (nmE w) x) := fun _ => rfl
      have x1 : ∀ st, idxM st (.tup [.err (nmE w) x, x]) (.int 1) = some x := fun _ => rfl
      have o1 : okC cls (.own "LetGoError") = true := by decide +kernel
      have o2 : okC cls (.ty "ValueError") = true := rfl
      by_cases h6 : w < 6
      · simp only [isS h_first, h6, ev_bnd, ev_ret, s_cons, s_nil, s_nx, s_rt, s_ct, s_bk, ev_asg, ev_set, evE, evT, e_var, e_own, e_int, e_bl, e_str, e_non, e_gstr, e_gint, e_bin, e_idx, t_cmp, e_cmp, s_ite, s_ret, es_nil, es_cons, e_blt, e_tup, e_cal, t_nt, e_ite, t_ite, e_rev, e_atr, e_mkx, e_mkk, o_non, o_som, e_slc, e_fr, e_mko, f_cal, f_blt, s_retF, e_and, e_or, e_nt, e_neg, t_chn, e_chn, f_lst, e_isi, e_txt, s_par, i_seq, i_rng1, i_rng2, s_own, s_ins, s_app, s_setS, s_exp, s_for, s_frz, f_comp, f_slc, f_bin, f_disp, f_dnewK, c_non, c_som, t_var, t_idx, t_cal, t_blt, t_isi, t_bl, t_fr, t_txt, v_e, v_o, s_retO, s_pass, s_whl, ev_compF, ev_forB, endV_vl, endV_fr, ev_okV, ev_frozen, endF_fr, rtE_nx, rtE_rt, slOf_l, slOf_d, ownL_l, ownG_l, ownG_d, rtO_l, rtO_d, seqI_l, seqI_t, seqI_s, seqI_b, b_addI, b_subI, b_mulI, b_modI, b_fdivI, b_addS, b_addT, b_mulS, b_mulT, b_addLL, b_mulL, b_pow1018, c_ltI, c_leI, c_gtI, c_geI, c_eqI, c_neI, c_eqS, c_neS, c_ltS, c_leS, c_gtS, c_geS, tr_bl, tr_int, tr_non, l_abs, l_int, l_intb, intOf_i, strOf_s, toVl_l, toVl_d, x_if, x_map, x_none, x_some, xb_if, List.getElem?_cons_zero, List.getElem?_cons_succ, List.set_cons_zero, List.set_cons_succ, List.map_cons, List.map_nil, wipeE, st1_n, st1_x, st1_e, Option.some.injEq, Sl.v.injEq, Sl.l.injEq, Sl.d.injEq, Vl.int.injEq, Vl.bl.injEq, Vl.str.injEq, exists_eq_left', exists_eq_left, true_and, and_true, if_true, reduceIte, Bool.not_true, Bool.not_false, Bool.true_eq_false, Bool.false_eq_true, if_false, decide_eq_true_eq, Bool.not_eq_true', decide_true, decide_false, Int.reducePow, Int.reduceNeg, Int.reduceLT, Int.reduceLE, or_true, true_or, and_self, List.all_nil, List.all_cons, List.length_nil, List.length_cons, Nat.zero_le, Nat.zero_add, Nat.reduceAdd, Bool.and_true, Bool.true_and, Bool.and_self, exists_const, Nat.reduceBneDiff, Nat.reduceLeDiff, notBorI, notBorS, notBorB, notBorT, notBorL, notBorO, notBorN, notBorD, notBorE, t_and, t_or]
        rw [ev_pu (first_pu (d := 96) w0 h6 tx)]
        simp only [x0, x1, hz, ne, i1, i2, o1, o2, isS h_marks, ev_bnd, ev_ret, s_cons, s_nil, s_nx, s_rt, s_ct, s_bk, ev_asg, ev_set, evE, evT, e_var, e_own, e_int, e_bl, e_str, e_non, e_gstr, e_gint, e_bin, e_idx, t_cmp, e_cmp, s_ite, s_ret, es_nil, es_cons, e_blt, e_tup, e_cal, t_nt, e_ite, t_ite, e_rev, e_atr, e_mkx, e_mkk, o_non, o_som, e_slc, e_fr, e_mko, f_cal, f_blt, s_retF, e_and, e_or, e_nt, e_neg, t_chn, e_chn, f_lst, e_isi, e_txt, s_par, i_seq, i_rng1, i_rng2, s_own, s_ins, s_app, s_setS, s_exp, s_for, s_frz, f_comp, f_slc, f_bin, f_disp, f_dnewK, c_non, c_som, t_var, t_idx, t_cal, t_blt, t_isi, t_bl, t_fr, t_txt, v_e, v_o, s_retO, s_pass, s_whl, ev_compF, ev_forB, endV_vl, endV_fr, ev_okV, ev_frozen, endF_fr, rtE_nx, rtE_rt, slOf_l, slOf_d, ownL_l, ownG_l, ownG_d, rtO_l, rtO_d, seqI_l, seqI_t, seqI_s, seqI_b, b_addI, b_subI, b_mulI, b_modI, b_fdivI, b_addS, b_addT, b_mulS, b_mulT, b_addLL, b_mulL, b_pow1018, c_ltI, c_leI, c_gtI, c_geI, c_eqI, c_neI, c_eqS, c_neS, c_ltS, c_leS, c_gtS, c_geS, tr_bl, tr_int, tr_non, l_abs, l_int, l_intb, intOf_i, strOf_s, toVl_l, toVl_d, x_if, x_map, x_none, x_some, xb_if, List.getElem?_cons_zero, List.getElem?_cons_succ, List.set_cons_zero, List.set_cons_succ, List.map_cons, List.map_nil, wipeE, st1_n, st1_x, st1_e, Option.some.injEq, Sl.v.injEq, Sl.l.injEq, Sl.d.injEq, Vl.int.injEq, Vl.bl.injEq, Vl.str.injEq, exists_eq_left', exists_eq_left, true_and, and_true, if_true, reduceIte, Bool.not_true, Bool.not_false, Bool.true_eq_false, Bool.false_eq_true, if_false, decide_eq_true_eq, Bool.not_eq_true', decide_true, decide_false, Int.reducePow, Int.reduceNeg, Int.reduceLT, Int.reduceLE, or_true, true_or, and_self, List.all_nil, List.all_cons, List.length_nil, List.length_cons, Nat.zero_le, Nat.zero_add, Nat.reduceAdd, Bool.and_true, Bool.true_and, Bool.and_self, exists_const, Nat.reduceBneDiff, Nat.reduceLeDiff, notBorI, notBorS, notBorB, notBorT, notBorL, notBorO, notBorN, notBorD, notBorE, t_and, t_or]
        rw [ev_pu (marks_pu (d := 96) nn)]
        simp only [x0, x1, hz, ne, i1, i2, o1, o2, isS h_marks, ev_bnd, ev_ret, s_cons, s_nil, s_nx, s_rt, s_ct, s_bk, ev_asg, ev_set, evE, evT, e_var, e_own, e_int, e_bl, e_str, e_non, e_gstr, e_gint, e_bin, e_idx, t_cmp, e_cmp, s_ite, s_ret, es_nil, es_cons, e_blt, e_tup, e_cal, t_nt, e_ite, t_ite, e_rev, e_atr, e_mkx, e_mkk, o_non, o_som, e_slc, e_fr, e_mko, f_cal, f_blt, s_retF, e_and, e_or, e_nt, e_neg, t_chn, e_chn, f_lst, e_isi, e_txt, s_par, i_seq, i_rng1, i_rng2, s_own, s_ins, s_app, s_setS, s_exp, s_for, s_frz, f_comp, f_slc, f_bin, f_disp, f_dnewK, c_non, c_som, t_var, t_idx, t_cal, t_blt, t_isi, t_bl, t_fr, t_txt, v_e, v_o, s_retO, s_pass, s_whl, ev_compF, ev_forB, endV_vl, endV_fr, ev_okV, ev_frozen, endF_fr, rtE_nx, rtE_rt, slOf_l, slOf_d, ownL_l, ownG_l, ownG_d, rtO_l, rtO_d, seqI_l, seqI_t, seqI_s, seqI_b, b_addI, b_subI, b_mulI, b_modI, b_fdivI, b_addS, b_addT, b_mulS, b_mulT, b_addLL, b_mulL, b_pow1018, c_ltI, c_leI, c_gtI, c_geI, c_eqI, c_neI, c_eqS, c_neS, c_ltS, c_leS, c_gtS, c_geS, tr_bl, tr_int, tr_non, l_abs, l_int, l_intb, intOf_i, strOf_s, toVl_l, toVl_d, x_if, x_map, x_none, x_some, xb_if, List.getElem?_cons_zero, List.getElem?_cons_succ, List.set_cons_zero, List.set_cons_succ, List.map_cons, List.map_nil, wipeE, st1_n, st1_x, st1_e, Option.some.injEq, Sl.v.injEq, Sl.l.injEq, Sl.d.injEq, Vl.int.injEq, Vl.bl.injEq, Vl.str.injEq, exists_eq_left', exists_eq_left, true_and, and_true, if_true, reduceIte, Bool.not_true, Bool.not_false, Bool.true_eq_false, Bool.false_eq_true, if_false, decide_eq_true_eq, Bool.not_eq_true', decide_true, decide_false, Int.reducePow, Int.reduceNeg, Int.reduceLT, Int.reduceLE, or_true, true_or, and_self, List.all_nil, List.all_cons, List.length_nil, List.length_cons, Nat.zero_le, Nat.zero_add, Nat.reduceAdd, Bool.and_true, Bool.true_and, Bool.and_self, exists_const, Nat.reduceBneDiff, Nat.reduceLeDiff, notBorI, notBorS, notBorB, notBorT, notBorL, notBorO, notBorN, notBorD, notBorE, t_and, t_or]
        refine ⟨by rw [sz]; exact Nat.le_of_ble_eq_true rfl, ?_⟩
        have er : (List.range (Int.toNat 12)).map (fun i => Vl.int (0 + (i : Nat))) = ((List.range 12).map fun i => (0 + (i : Nat) : Int)).map Vl.int := rfl
        rw [er]
        refine ev_comp_map Vl.int (fun k => Vl.bl (decide (k = w))) (fun b hb => ?_) ?_
        · simp only [ev_bnd, ev_ret, s_cons, s_nil, s_nx, s_rt, s_ct, s_bk, ev_asg, ev_set, evE, evT, e_var, e_own, e_int, e_bl, e_str, e_non, e_gstr, e_gint, e_bin, e_idx, t_cmp, e_cmp, s_ite, s_ret, es_nil, es_cons, e_blt, e_tup, e_cal, t_nt, e_ite, t_ite, e_rev, e_atr, e_mkx, e_mkk, o_non, o_som, e_slc, e_fr, e_mko, f_cal, f_blt, s_retF, e_and, e_or, e_nt, e_neg, t_chn, e_chn, f_lst, e_isi, e_txt, s_par, i_seq, i_rng1, i_rng2, s_own, s_ins, s_app, s_setS, s_exp, s_for, s_frz, f_comp, f_slc, f_bin, f_disp, f_dnewK, c_non, c_som, t_var, t_idx, t_cal, t_blt, t_isi, t_bl, t_fr, t_txt, v_e, v_o, s_retO, s_pass, s_whl, ev_compF, ev_forB, endV_vl, endV_fr, ev_okV, ev_frozen, endF_fr, rtE_nx, rtE_rt, slOf_l, slOf_d, ownL_l, ownG_l, ownG_d, rtO_l, rtO_d, seqI_l, seqI_t, seqI_s, seqI_b, b_addI, b_subI, b_mulI, b_modI, b_fdivI, b_addS, b_addT, b_mulS, b_mulT, b_addLL, b_mulL, b_pow1018, c_ltI, c_leI, c_gtI, c_geI, c_eqI, c_neI, c_eqS, c_neS, c_ltS, c_leS, c_gtS, c_geS, tr_bl, tr_int, tr_non, l_abs, l_int, l_intb, intOf_i, strOf_s, toVl_l, toVl_d, x_if, x_map, x_none, x_some, xb_if, List.getElem?_cons_zero, List.getElem?_cons_succ, List.set_cons_zero, List.set_cons_succ, List.map_cons, List.map_nil, wipeE, st1_n, st1_x, st1_e, Option.some.injEq, Sl.v.injEq, Sl.l.injEq, Sl.d.injEq, Vl.int.injEq, Vl.bl.injEq, Vl.str.injEq, exists_eq_left', exists_eq_left, true_and, and_true, if_true, reduceIte, Bool.not_true, Bool.not_false, Bool.true_eq_false, Bool.false_eq_true, if_false, decide_eq_true_eq, Bool.not_eq_true', decide_true, decide_false, Int.reducePow, Int.reduceNeg, Int.reduceLT, Int.reduceLE, or_true, true_or, and_self, List.all_nil, List.all_cons, List.length_nil, List.length_cons, Nat.zero_le, Nat.zero_add, Nat.reduceAdd, Bool.and_true, Bool.true_and, Bool.and_self, exists_const, Nat.reduceBneDiff, Nat.reduceLeDiff, notBorI, notBorS, notBorB, notBorT, notBorL, notBorO, notBorN, notBorD, notBorE, t_and, t_or]
        · simp only [marks_eq w0 w1, ev_bnd, ev_ret, s_cons, s_nil, s_nx, s_rt, s_ct, s_bk, ev_asg, ev_set, evE, evT, e_var, e_own, e_int, e_bl, e_str, e_non, e_gstr, e_gint, e_bin, e_idx, t_cmp, e_cmp, s_ite, s_ret, es_nil, es_cons, e_blt, e_tup, e_cal, t_nt, e_ite, t_ite, e_rev, e_atr, e_mkx, e_mkk, o_non, o_som, e_slc, e_fr, e_mko, f_cal, f_blt, s_retF, e_and, e_or, e_nt, e_neg, t_chn, e_chn, f_lst, e_isi, e_txt, s_par, i_seq, i_rng1, i_rng2, s_own, s_ins, s_app, s_setS, s_exp, s_for, s_frz, f_comp, f_slc, f_bin, f_disp, f_dnewK, c_non, c_som, t_var, t_idx, t_cal, t_blt, t_isi, t_bl, t_fr, t_txt, v_e, v_o, s_retO, s_pass, s_whl, ev_compF, ev_forB, endV_vl, endV_fr, ev_okV, ev_frozen, endF_fr, rtE_nx, rtE_rt, slOf_l, slOf_d, ownL_l, ownG_l, ownG_d, rtO_l, rtO_d, seqI_l, seqI_t, seqI_s, seqI_b, b_addI, b_subI, b_mulI, b_modI, b_fdivI, b_addS, b_addT, b_mulS, b_mulT, b_addLL, b_mulL, b_pow1018, c_ltI, c_leI, c_gtI, c_geI, c_eqI, c_neI, c_eqS, c_neS, c_ltS, c_leS, c_gtS, c_geS, tr_bl, tr_int, tr_non, l_abs, l_int, l_intb, intOf_i, strOf_s, toVl_l, toVl_d, x_if, x_map, x_none, x_some, xb_if, List.getElem?_cons_zero, List.getElem?_cons_succ, List.set_cons_zero, List.set_cons_succ, List.map_cons, List.map_nil, wipeE, st1_n, st1_x, st1_e, Option.some.injEq, Sl.v.injEq, Sl.l.injEq, Sl.d.injEq, Vl.int.injEq, Vl.bl.injEq, Vl.str.injEq, exists_eq_left', exists_eq_left, true_and, and_true, if_true, reduceIte, Bool.not_true, Bool.not_false, Bool.true_eq_false, Bool.false_eq_true, if_false, decide_eq_true_eq, Bool.not_eq_true', decide_true, decide_false, Int.reducePow, Int.reduceNeg, Int.reduceLT, Int.reduceLE, or_true, true_or, and_self, List.all_nil, List.all_cons, List.length_nil, List.length_cons, Nat.zero_le, Nat.zero_add, Nat.reduceAdd, Bool.and_true, Bool.true_and, Bool.and_self, exists_const, Nat.reduceBneDiff, Nat.reduceLeDiff, notBorI, notBorS, notBorB, notBorT, notBorL, notBorO, notBorN, notBorD, notBorE, t_and, t_or]
          exact ⟨fun y hy => hw y (by simp [hy]), D2.dr, _, _, _, _, _, _, rfl⟩
      · simp only [isS h_last, h6, ev_bnd, ev_ret, s_cons, s_nil, s_nx, s_rt, s_ct, s_bk, ev_asg, ev_set, evE, evT, e_var, e_own, e_int, e_bl, e_str, e_non, e_gstr, e_gint, e_bin, e_idx, t_cmp, e_cmp, s_ite, s_ret, es_nil, es_cons, e_blt, e_tup, e_cal, t_nt, e_ite, t_ite, e_rev, e_atr, e_mkx, e_mkk, o_non, o_som, e_slc, e_fr, e_mko, f_cal, f_blt, s_retF, e_and, e_or, e_nt, e_neg, t_chn, e_chn, f_lst, e_isi, e_txt, s_par, i_seq, i_rng1, i_rng2, s_own, s_ins, s_app, s_setS, s_exp, s_for, s_frz, f_comp, f_slc, f_bin, f_disp, f_dnewK, c_non, c_som, t_var, t_idx, t_cal, t_blt, t_isi, t_bl, t_fr, t_txt, v_e, v_o, s_retO, s_pass, s_whl, ev_compF, ev_forB, endV_vl, endV_fr, ev_okV, ev_frozen, endF_fr, rtE_nx, rtE_rt, slOf_l, slOf_d, ownL_l, ownG_l, ownG_d, rtO_l, rtO_d, seqI_l, seqI_t, seqI_s, seqI_b, b_addI, b_subI, b_mulI, b_modI, b_fdivI, b_addS, b_addT, b_mulS, b_mulT, b_addLL, b_mulL, b_pow1018, c_ltI, c_leI, c_gtI, c_geI, c_eqI, c_neI, c_eqS, c_neS, c_ltS, c_leS, c_gtS, c_geS, tr_bl, tr_int, tr_non, l_abs, l_int, l_intb, intOf_i, strOf_s, toVl_l, toVl_d, x_if, x_map, x_none, x_some, xb_if, List.getElem?_cons_zero, List.getElem?_cons_succ, List.set_cons_zero, List.set_cons_succ, List.map_cons, List.map_nil, wipeE, st1_n, st1_x, st1_e, Option.some.injEq, Sl.v.injEq, Sl.l.injEq, Sl.d.injEq, Vl.int.injEq, Vl.bl.injEq, Vl.str.injEq, exists_eq_left', exists_eq_left, true_and, and_true, if_true, reduceIte, Bool.not_true, Bool.not_false, Bool.true_eq_false, Bool.false_eq_true, if_false, decide_eq_true_eq, Bool.not_eq_true', decide_true, decide_false, Int.reducePow, Int.reduceNeg, Int.reduceLT, Int.reduceLE, or_true, true_or, and_self, List.all_nil, List.all_cons, List.length_nil, List.length_cons, Nat.zero_le, Nat.zero_add, Nat.reduceAdd, Bool.and_true, Bool.true_and, Bool.and_self, exists_const, Nat.reduceBneDiff, Nat.reduceLeDiff, notBorI, notBorS, notBorB, notBorT, notBorL, notBorO, notBorN, notBorD, notBorE, t_and, t_or]
        rw [ev_pu (last_pu (d := 96) (by omega) w1 tx)]
        simp only [x0, x1, hz, ne, i1, i2, o1, o2, isS h_marks, ev_bnd, ev_ret, s_cons, s_nil, s_nx, s_rt, s_ct, s_bk, ev_asg, ev_set, evE, evT, e_var, e_own, e_int, e_bl, e_str, e_non, e_gstr, e_gint, e_bin, e_idx, t_cmp, e_cmp, s_ite, s_ret, es_nil, es_cons, e_blt, e_tup, e_cal, t_nt, e_ite, t_ite, e_rev, e_atr, e_mkx, e_mkk, o_non, o_som, e_slc, e_fr, e_mko, f_cal, f_blt, s_retF, e_and, e_or, e_nt, e_neg, t_chn, e_chn, f_lst, e_isi, e_txt, s_par, i_seq, i_rng1, i_rng2, s_own, s_ins, s_app, s_setS, s_exp, s_for, s_frz, f_comp, f_slc, f_bin, f_disp, f_dnewK, c_non, c_som, t_var, t_idx, t_cal, t_blt, t_isi, t_bl, t_fr, t_txt, v_e, v_o, s_retO, s_pass, s_whl, ev_compF, ev_forB, endV_vl, endV_fr, ev_okV, ev_frozen, endF_fr, rtE_nx, rtE_rt, slOf_l, slOf_d, ownL_l, ownG_l, ownG_d, rtO_l, rtO_d, seqI_l, seqI_t, seqI_s, seqI_b, b_addI, b_subI, b_mulI, b_modI, b_fdivI, b_addS, b_addT, b_mulS, b_mulT, b_addLL, b_mulL, b_pow1018, c_ltI, c_leI, c_gtI, c_geI, c_eqI, c_neI, c_eqS, c_neS, c_ltS, c_leS, c_gtS, c_geS, tr_bl, tr_int, tr_non, l_abs, l_int, l_intb, intOf_i, strOf_s, toVl_l, toVl_d, x_if, x_map, x_none, x_some, xb_if, List.getElem?_cons_zero, List.getElem?_cons_succ, List.set_cons_zero, List.set_cons_succ, List.map_cons, List.map_nil, wipeE, st1_n, st1_x, st1_e, Option.some.injEq, Sl.v.injEq, Sl.l.injEq, Sl.d.injEq, Vl.int.injEq, Vl.bl.injEq, Vl.str.injEq, exists_eq_left', exists_eq_left, true_and, and_true, if_true, reduceIte, Bool.not_true, Bool.not_false, Bool.true_eq_false, Bool.false_eq_true, if_false, decide_eq_true_eq, Bool.not_eq_true', decide_true, decide_false, Int.reducePow, Int.reduceNeg, Int.reduceLT, Int.reduceLE, or_true, true_or, and_self, List.all_nil, List.all_cons, List.length_nil, List.length_cons, Nat.zero_le, Nat.zero_add, Nat.reduceAdd, Bool.and_true, Bool.true_and, Bool.and_self, exists_const, Nat.reduceBneDiff, Nat.reduceLeDiff, notBorI, notBorS, notBorB, notBorT, notBorL, notBorO, notBorN, notBorD, notBorE, t_and, t_or]
        rw [ev_pu (marks_pu (d := 96) nn)]
        simp only [x0, x1, hz, ne, i1, i2, o1, o2, isS h_marks, ev_bnd, ev_ret, s_cons, s_nil, s_nx, s_rt, s_ct, s_bk, ev_asg, ev_set, evE, evT, e_var, e_own, e_int, e_bl, e_str, e_non, e_gstr, e_gint, e_bin, e_idx, t_cmp, e_cmp, s_ite, s_ret, es_nil, es_cons, e_blt, e_tup, e_cal, t_nt, e_ite, t_ite, e_rev, e_atr, e_mkx, e_mkk, o_non, o_som, e_slc, e_fr, e_mko, f_cal, f_blt, s_retF, e_and, e_or, e_nt, e_neg, t_chn, e_chn, f_lst, e_isi, e_txt, s_par, i_seq, i_rng1, i_rng2, s_own, s_ins, s_app, s_setS, s_exp, s_for, s_frz, f_comp, f_slc, f_bin, f_disp, f_dnewK, c_non, c_som, t_var, t_idx, t_cal, t_blt, t_isi, t_bl, t_fr, t_txt, v_e, v_o, s_retO, s_pass, s_whl, ev_compF, ev_forB, endV_vl, endV_fr, ev_okV, ev_frozen, endF_fr, rtE_nx, rtE_rt, slOf_l, slOf_d, ownL_l, ownG_l, ownG_d, rtO_l, rtO_d, seqI_l, seqI_t, seqI_s, seqI_b, b_addI, b_subI, b_mulI, b_modI, b_fdivI, b_addS, b_addT, b_mulS, b_mulT, b_addLL, b_mulL, b_pow1018, c_ltI, c_leI, c_gtI, c_geI, c_eqI, c_neI, c_eqS, c_neS, c_ltS, c_leS, c_gtS, c_geS, tr_bl, tr_int, tr_non, l_abs, l_int, l_intb, intOf_i, strOf_s, toVl_l, toVl_d, x_if, x_map, x_none, x_some, xb_if, List.getElem?_cons_zero, List.getElem?_cons_succ, List.set_cons_zero, List.set_cons_succ, List.map_cons, List.map_nil, wipeE, st1_n, st1_x, st1_e, Option.some.injEq, Sl.v.injEq, Sl.l.injEq, Sl.d.injEq, Vl.int.injEq, Vl.bl.injEq, Vl.str.injEq, exists_eq_left', exists_eq_left, true_and, and_true, if_true, reduceIte, Bool.not_true, Bool.not_false, Bool.true_eq_false, Bool.false_eq_true, if_false, decide_eq_true_eq, Bool.not_eq_true', decide_true, decide_false, Int.reducePow, Int.reduceNeg, Int.reduceLT, Int.reduceLE, or_true, true_or, and_self, List.all_nil, List.all_cons, List.length_nil, List.length_cons, Nat.zero_le, Nat.zero_add, Nat.reduceAdd, Bool.and_true, Bool.true_and, Bool.and_self, exists_const, Nat.reduceBneDiff, Nat.reduceLeDiff, notBorI, notBorS, notBorB, notBorT, notBorL, notBorO, notBorN, notBorD, notBorE, t_and, t_or]
        refine ⟨by rw [sz]; exact Nat.le_of_ble_eq_true rfl, ?_⟩
        have er : (List.range (Int.toNat 12)).map (fun i => Vl.int (0 + (i : Nat))) = ((List.range 12).map fun i => (0 + (i : Nat) : Int)).map Vl.int := rfl
        rw [er]
        refine ev_comp_map Vl.int (fun k => Vl.bl (decide (k = w))) (fun b hb => ?_) ?_
        · simp only [ev_bnd, ev_ret, s_cons, s_nil, s_nx, s_rt, s_ct, s_bk, ev_asg, ev_set, evE, evT, e_var, e_own, e_int, e_bl, e_str, e_non, e_gstr, e_gint, e_bin, e_idx, t_cmp, e_cmp, s_ite, s_ret, es_nil, es_cons, e_blt, e_tup, e_cal, t_nt, e_ite, t_ite, e_rev, e_atr, e_mkx, e_mkk, o_non, o_som, e_slc, e_fr, e_mko, f_cal, f_blt, s_retF, e_and, e_or, e_nt, e_neg, t_chn, e_chn, f_lst, e_isi, e_txt, s_par, i_seq, i_rng1, i_rng2, s_own, s_ins, s_app, s_setS, s_exp, s_for, s_frz, f_comp, f_slc, f_bin, f_disp, f_dnewK, c_non, c_som, t_var, t_idx, t_cal, t_blt, t_isi, t_bl, t_fr, t_txt, v_e, v_o, s_retO, s_pass, s_whl, ev_compF, ev_forB, endV_vl, endV_fr, ev_okV, ev_frozen, endF_fr, rtE_nx, rtE_rt, slOf_l, slOf_d, ownL_l, ownG_l, ownG_d, rtO_l, rtO_d, seqI_l, seqI_t, seqI_s, seqI_b, b_addI, b_subI, b_mulI, b_modI, b_fdivI, b_addS, b_addT, b_mulS, b_mulT, b_addLL, b_mulL, b_pow1018, c_ltI, c_leI, c_gtI, c_geI, c_eqI, c_neI, c_eqS, c_neS, c_ltS, c_leS, c_gtS, c_geS, tr_bl, tr_int, tr_non, l_abs, l_int, l_intb, intOf_i, strOf_s, toVl_l, toVl_d, x_if, x_map, x_none, x_some, xb_if, List.getElem?_cons_zero, List.getElem?_cons_succ, List.set_cons_zero, List.set_cons_succ, List.map_cons, List.map_nil, wipeE, st1_n, st1_x, st1_e, Option.some.injEq, Sl.v.injEq, Sl.l.injEq, Sl.d.injEq, Vl.int.injEq, Vl.bl.injEq, Vl.str.injEq, exists_eq_left', exists_eq_left, true_and, and_true, if_true, reduceIte, Bool.not_true, Bool.not_false, Bool.true_eq_false, Bool.false_eq_true, if_false, decide_eq_true_eq, Bool.not_eq_true', decide_true, decide_false, Int.reducePow, Int.reduceNeg, Int.reduceLT, Int.reduceLE, or_true, true_or, and_self, List.all_nil, List.all_cons, List.length_nil, List.length_cons, Nat.zero_le, Nat.zero_add, Nat.reduceAdd, Bool.and_true, Bool.true_and, Bool.and_self, exists_const, Nat.reduceBneDiff, Nat.reduceLeDiff, notBorI, notBorS, notBorB, notBorT, notBorL, notBorO, notBorN, notBorD, notBorE, t_and, t_or]
        · simp only [marks_eq w0 w1, ev_bnd, ev_ret, s_cons, s_nil, s_nx, s_rt, s_ct, s_bk, ev_asg, ev_set, evE, evT, e_var, e_own, e_int, e_bl, e_str, e_non, e_gstr, e_gint, e_bin, e_idx, t_cmp, e_cmp, s_ite, s_ret, es_nil, es_cons, e_blt, e_tup, e_cal, t_nt, e_ite, t_ite, e_rev, e_atr, e_mkx, e_mkk, o_non, o_som, e_slc, e_fr, e_mko, f_cal, f_blt, s_retF, e_and, e_or, e_nt, e_neg, t_chn, e_chn, f_lst, e_isi, e_txt, s_par, i_seq, i_rng1, i_rng2, s_own, s_ins, s_app, s_setS, s_exp, s_for, s_frz, f_comp, f_slc, f_bin, f_disp, f_dnewK, c_non, c_som, t_var, t_idx, t_cal, t_blt, t_isi, t_bl, t_fr, t_txt, v_e, v_o, s_retO, s_pass, s_whl, ev_compF, ev_forB, endV_vl, endV_fr, ev_okV, ev_frozen, endF_fr, rtE_nx, rtE_rt, slOf_l, slOf_d, ownL_l, ownG_l, ownG_d, rtO_l, rtO_d, seqI_l, seqI_t, seqI_s, seqI_b, b_addI, b_subI, b_mulI, b_modI, b_fdivI, b_addS, b_addT, b_mulS, b_mulT, b_addLL, b_mulL, b_pow1018, c_ltI, c_leI, c_gtI, c_geI, c_eqI, c_neI, c_eqS, c_neS, c_ltS, c_leS, c_gtS, c_geS, tr_bl, tr_int, tr_non, l_abs, l_int, l_intb, intOf_i, strOf_s, toVl_l, toVl_d, x_if, x_map, x_none, x_some, xb_if, List.getElem?_cons_zero, List.getElem?_cons_succ, List.set_cons_zero, List.set_cons_succ, List.map_cons, List.map_nil, wipeE, st1_n, st1_x, st1_e, Option.some.injEq, Sl.v.injEq, Sl.l.injEq, Sl.d.injEq, Vl.int.injEq, Vl.bl.injEq, Vl.str.injEq, exists_eq_left', exists_eq_left, true_and, and_true, if_true, reduceIte, Bool.not_true, Bool.not_false, Bool.true_eq_false, Bool.false_eq_true, if_false, decide_eq_true_eq, Bool.not_eq_true', decide_true, decide_false, Int.reducePow, Int.reduceNeg, Int.reduceLT, Int.reduceLE, or_true, true_or, and_self, List.all_nil, List.all_cons, List.length_nil, List.length_cons, Nat.zero_le, Nat.zero_add, Nat.reduceAdd, Bool.and_true, Bool.true_and, Bool.and_self, exists_const, Nat.reduceBneDiff, Nat.reduceLeDiff, notBorI, notBorS, notBorB, notBorT, notBorL, notBorO, notBorN, notBorD, notBorE, t_and, t_or]
          exact ⟨fun y hy => hw y (by simp [hy]), D2.dr, _, _, _, _, _, _, rfl⟩
    · rintro r s ⟨hw, D, s2, s3, s4, s5, s6, s7, rfl⟩
      simp only [ev_bnd, ev_ret, s_cons, s_nil, s_nx, s_rt, s_ct, s_bk, ev_asg, ev_set, evE, evT, e_var, e_own, e_int, e_bl, e_str, e_non, e_gstr, e_gint, e_bin, e_idx, t_cmp, e_cmp, s_ite, s_ret, es_nil, es_cons, e_blt, e_tup, e_cal, t_nt, e_ite, t_ite, e_rev, e_atr, e_mkx, e_mkk, o_non, o_som, e_slc, e_fr, e_mko, f_cal, f_blt, s_retF, e_and, e_or, e_nt, e_neg, t_chn, e_chn, f_lst, e_isi, e_txt, s_par, i_seq, i_rng1, i_rng2, s_own, s_ins, s_app, s_setS, s_exp, s_for, s_frz, f_comp, f_slc, f_bin, f_disp, f_dnewK, c_non, c_som, t_var, t_idx, t_cal, t_blt, t_isi, t_bl, t_fr, t_txt, v_e, v_o, s_retO, s_pass, s_whl, ev_compF, ev_forB, endV_vl, endV_fr, ev_okV, ev_frozen, endF_fr, rtE_nx, rtE_rt, slOf_l, slOf_d, ownL_l, ownG_l, ownG_d, rtO_l, rtO_d, seqI_l, seqI_t, seqI_s, seqI_b, b_addI, b_subI, b_mulI, b_modI, b_fdivI, b_addS, b_addT, b_mulS, b_mulT, b_addLL, b_mulL, b_pow1018, c_ltI, c_leI, c_gtI, c_geI, c_eqI, c_neI, c_eqS, c_neS, c_ltS, c_leS, c_gtS, c_geS, tr_bl, tr_int, tr_non, l_abs, l_int, l_intb, intOf_i, strOf_s, toVl_l, toVl_d, x_if, x_map, x_none, x_some, xb_if, List.getElem?_cons_zero, List.getElem?_cons_succ, List.set_cons_zero, List.set_cons_succ, List.map_cons, List.map_nil, wipeE, st1_n, st1_x, st1_e, Option.some.injEq, Sl.v.injEq, Sl.l.injEq, Sl.d.injEq, Vl.int.injEq, Vl.bl.injEq, Vl.str.injEq, exists_eq_left', exists_eq_left, true_and, and_true, if_true, reduceIte, Bool.not_true, Bool.not_false, Bool.true_eq_false, Bool.false_eq_true, if_false, decide_eq_true_eq, Bool.not_eq_true', decide_true, decide_false, Int.reducePow, Int.reduceNeg, Int.reduceLT, Int.reduceLE, or_true, true_or, and_self, List.all_nil, List.all_cons, List.length_nil, List.length_cons, Nat.zero_le, Nat.zero_add, Nat.reduceAdd, Bool.and_true, Bool.true_and, Bool.and_self, exists_const, Nat.reduceBneDiff, Nat.reduceLeDiff, notBorI, notBorS, notBorB, notBorT, notBorL, notBorO, notBorN, notBorD, notBorE, t_and, t_or]
      exact ⟨fun y hy => hn y (by simp [hy]), D, _, _, _, _, _, _, rfl⟩
  · rintro r s ⟨hn, D, s2, s3, s4, s5, s6, s7, rfl⟩
    simp only [ev_bnd, ev_ret, s_cons, s_nil, s_nx, s_rt, s_ct, s_bk, ev_asg, ev_set, evE, evT, e_var, e_own, e_int, e_bl, e_str, e_non, e_gstr, e_gint, e_bin, e_idx, t_cmp, e_cmp, s_ite, s_ret, es_nil, es_cons, e_blt, e_tup, e_cal, t_nt, e_ite, t_ite, e_rev, e_atr, e_mkx, e_mkk, o_non, o_som, e_slc, e_fr, e_mko, f_cal, f_blt, s_retF, e_and, e_or, e_nt, e_neg, t_chn, e_chn, f_lst, e_isi, e_txt, s_par, i_seq, i_rng1, i_rng2, s_own, s_ins, s_app, s_setS, s_exp, s_for, s_frz, f_comp, f_slc, f_bin, f_disp, f_dnewK, c_non, c_som, t_var, t_idx, t_cal, t_blt, t_isi, t_bl, t_fr, t_txt, v_e, v_o, s_retO, s_pass, s_whl, ev_compF, ev_forB, endV_vl, endV_fr, ev_okV, ev_frozen, endF_fr, rtE_nx, rtE_rt, slOf_l, slOf_d, ownL_l, ownG_l, ownG_d, rtO_l, rtO_d, seqI_l, seqI_t, seqI_s, seqI_b, b_addI, b_subI, b_mulI, b_modI, b_fdivI, b_addS, b_addT, b_mulS, b_mulT, b_addLL, b_mulL, b_pow1018, c_ltI, c_leI, c_gtI, c_geI, c_eqI, c_neI, c_eqS, c_neS, c_ltS, c_leS, c_gtS, c_geS, tr_bl, tr_int, tr_non, l_abs, l_int, l_intb, intOf_i, strOf_s, toVl_l, toVl_d, x_if, x_map, x_none, x_some, xb_if, List.getElem?_cons_zero, List.getElem?_cons_succ, List.set_cons_zero, List.set_cons_succ, List.map_cons, List.map_nil, wipeE, st1_n, st1_x, st1_e, Option.some.injEq, Sl.v.injEq, Sl.l.injEq, Sl.d.injEq, Vl.int.injEq, Vl.bl.injEq, Vl.str.injEq, exists_eq_left', exists_eq_left, true_and, and_true, if_true, reduceIte, Bool.not_true, Bool.not_false, Bool.true_eq_false, Bool.false_eq_true, if_false, decide_eq_true_eq, Bool.not_eq_true', decide_true, decide_false, Int.reducePow, Int.reduceNeg, Int.reduceLT, Int.reduceLE, or_true, true_or, and_self, List.all_nil, List.all_cons, List.length_nil, List.length_cons, Nat.zero_le, Nat.zero_add, Nat.reduceAdd, Bool.and_true, Bool.true_and, Bool.and_self, exists_const, Nat.reduceBneDiff, Nat.reduceLeDiff, notBorI, notBorS, notBorB, notBorT, notBorL, notBorO, notBorN, notBorD, notBorE, t_and, t_or]
end Lw

set_option Elab.async false
set_option linter.all false
set_option maxRecDepth 100000
set_option maxHeartbeats 8000000
namespace Lw
open PySem L2 LG PyProof.Rows
open PySem.PyData (strOk)
theorem ans : Ans := fun ns _ _ => by
  obtain ⟨r, s, e, rfl⟩ := law_ok ns
  exact ⟨s, e⟩
end Lw

theorem PySem.Challenge.cw_letgo_k01_errors_apart_holds : PySem.Challenge.rw_letgo_k01_errors_apart.Holds :=
  Lw.holds Lw.ans
