import PyProof.Rows.All
import Wide.All
import OpenK.AllK
import Wide.FinOn
import HandS.ForMost
import HandS.Deep
import KE.KDictKeyed
import KE.SortData
import HandS.TupAny
import HandS.IsInst
import HandS.Conv
import HandS.Zip
import HandS.Strs
import KE.KIndexOf
import HandS.Defaults
import HandS.Words
import HandS.TupSets
import HandS.Head0
import HandS.Head1
import HandS.Head2
import HandS.HeadEnd
import HandS.HeadHook1
import HandS.HeadHook2
import PySem.Challenge.RW_pairlands_k44_net_things
set_option Elab.async false
set_option linter.all false
set_option maxRecDepth 100000
set_option autoImplicit false
set_option maxHeartbeats 40000000
/-! T-layer, part A: tree values, own heap, the relation to the hand layer's heap, pending results. -/
namespace TL
open PySem PySem.Spec PyProof.Rows L2

/-- a value as a tree; ref n: the n-th mutable object made; scr: the script -/
inductive T where
  | non | bl (b : Bool) | int (i : Int) | str (x : Str) | tup (ts : List T) | ref (n : Nat) | scr (ns : List Int)
instance : Inhabited T := ⟨.non⟩
/-- a mutable object -/
inductive TO where
  | lst (xs : List T) | dic (kvs : List (T × T)) | dit (kvs : List (T × T)) | lck (kvs : List (T × T)) | lct (kvs : List (T × T)) | ins (C : Str) (fs : List (Str × T))
abbrev TH := List TO
inductive Res (α : Type) where
  | ok (a : α) (h : TH) | exc (c : Str) (fs : List (Str × T)) (h : TH) | stuck
def Res.bind {α β : Type} (r : Res α) (f : α → TH → Res β) : Res β := match r with
  | .ok a h => f a h
  | .exc c fs h => .exc c fs h
  | .stuck => .stuck
@[simp] theorem bind_ok {α β : Type} (a : α) (h : TH) (f : α → TH → Res β) : (Res.ok a h).bind f = f a h := rfl
@[simp] theorem bind_exc {α β : Type} (c : Str) (fs : List (Str × T)) (h : TH) (f : α → TH → Res β) : (Res.exc c fs h : Res α).bind f = .exc c fs h := rfl
@[simp] theorem bind_stuck {α β : Type} (f : α → TH → Res β) : (Res.stuck : Res α).bind f = .stuck := rfl
abbrev Sl := List (Option T)
abbrev ME := Sl → TH → Res T

/-! ### values -/
def SqS (K : PySem.W.Frag) (H : Hp) (a : Addr) (xs : List V) : Prop :=
  (∃ o, H a = some (.frz o (.lst xs))) ∨
    ∃ (o : Obj) (its : Array Value) (n : Nat), K.lookup a = some o ∧ o.cls = .type "list" ∧ o.dict = none ∧ o.data = .seq its n ∧ its.size ≤ sizeLine ∧ Vals xs its.toList
theorem SqS.l {K : PySem.W.Frag} {H : Hp} {a : Addr} {xs : List V} (h : SqS K H a xs) : SqL K H a xs := by
  rcases h with h | h
  · exact .inl (.inr h)
  · exact .inr h
/-- a tuple, its object known to bear no dict -/
def TpS (K : PySem.W.Frag) (H : Hp) (a : Addr) (xs : List V) : Prop :=
  (∃ o, H a = some (.frz o (.tup xs)) ∧ o.dict = none) ∨
    ∃ (o : Obj) (its : Array Value) (n : Nat), K.lookup a = some o ∧ o.cls = .type "tuple" ∧ o.dict = none ∧ o.data = .seq its n ∧ its.size ≤ sizeLine ∧ Vals xs its.toList
theorem TpS.t {K : PySem.W.Frag} {H : Hp} {a : Addr} {xs : List V} (h : TpS K H a xs) : SqT K H a xs := by
  rcases h with ⟨o, h, _⟩ | ⟨o, its, n, h1, h2, _, h4, h5, h6⟩
  · exact .inl (.inr ⟨o, h⟩)
  · exact .inr ⟨o, its, n, h1, h2, h4, h5, h6⟩
mutual
inductive VR (K : PySem.W.Frag) (m : List Addr) (H : Hp) : T → V → Prop
  | non : VR K m H .non .non
  | bl (b : Bool) : VR K m H (.bl b) (.bl b)
  | int (i : Int) : VR K m H (.int i) (.int i)
  | str (x : Str) : VR K m H (.str x) (.str x)
  | tup {ts : List T} {a : Addr} {xs : List V} : TpS K H a xs → VRs K m H ts xs → VR K m H (.tup ts) (.ref a)
  | ref {n : Nat} {a : Addr} : m[n]? = some a → VR K m H (.ref n) (.ref a)
  | scr {ns : List Int} {a : Addr} : SqS K H a (ns.map V.int) → VR K m H (.scr ns) (.ref a)
inductive VRs (K : PySem.W.Frag) (m : List Addr) (H : Hp) : List T → List V → Prop
  | nil : VRs K m H [] []
  | cons {t : T} {ts : List T} {v : V} {vs : List V} : VR K m H t v → VRs K m H ts vs → VRs K m H (t :: ts) (v :: vs)
end
/-- what stays so that values stay -/
structure Keep (H H' : Hp) : Prop where
  tup : ∀ a o xs, H a = some (.frz o (.tup xs)) → H' a = some (.frz o (.tup xs))
  scr : ∀ a o xs, H a = some (.frz o (.lst xs)) → H' a = some (.frz o (.lst xs))
theorem Keep.refl (H : Hp) : Keep H H := ⟨fun _ _ _ h => h, fun _ _ _ h => h⟩
theorem Keep.trans {H H1 H2 : Hp} (a : Keep H H1) (b : Keep H1 H2) : Keep H H2 := ⟨fun c o xs h => b.tup c o xs (a.tup c o xs h), fun c o xs h => b.scr c o xs (a.scr c o xs h)⟩
section
variable {K : PySem.W.Frag} {m m' : List Addr} {H H' : Hp}
theorem TpS.keep (k : Keep H H') {a : Addr} {xs : List V} (h : TpS K H a xs) : TpS K H' a xs := by
  rcases h with ⟨o, h, d⟩ | h
  · exact .inl ⟨o, k.tup _ _ _ h, d⟩
  · exact .inr h
theorem SqS.keep (k : Keep H H') {a : Addr} {xs : List V} (h : SqS K H a xs) : SqS K H' a xs := by
  rcases h with ⟨o, h⟩ | h
  · exact .inl ⟨o, k.scr _ _ _ h⟩
  · exact .inr h
theorem pre_get {α : Type} {l l' : List α} (p : l <+: l') {i : Nat} {x : α} (h : l[i]? = some x) : l'[i]? = some x := by
  obtain ⟨r, rfl⟩ := p
  have : i < l.length := (List.getElem?_eq_some_iff.mp h).1
  rw [List.getElem?_append_left this]; exact h
mutual
theorem VR.mono (p : m <+: m') (k : Keep H H') : ∀ {t : T} {v : V}, VR K m H t v → VR K m' H' t v
  | _, _, .non => .non
  | _, _, .bl b => .bl b
  | _, _, .int i => .int i
  | _, _, .str x => .str x
  | _, _, .tup h1 h2 => .tup (TpS.keep k h1) (VRs.mono p k h2)
  | _, _, .ref h => .ref (pre_get p h)
  | _, _, .scr h => .scr (SqS.keep k h)
theorem VRs.mono (p : m <+: m') (k : Keep H H') : ∀ {ts : List T} {vs : List V}, VRs K m H ts vs → VRs K m' H' ts vs
  | _, _, .nil => .nil
  | _, _, .cons h1 h2 => .cons (VR.mono p k h1) (VRs.mono p k h2)
end
theorem VRs.length : ∀ {ts : List T} {vs : List V}, VRs K m H ts vs → ts.length = vs.length
  | _, _, .nil => rfl
  | _, _, .cons _ h => by simp [VRs.length h]
theorem VRs.get : ∀ {ts : List T} {vs : List V} {i : Nat} {t : T}, VRs K m H ts vs → ts[i]? = some t → ∃ v, vs[i]? = some v ∧ VR K m H t v
  | _, _, _, _, .nil, e => by simp at e
  | _, _, 0, _, .cons r _, e => by simp at e; subst e; exact ⟨_, rfl, r⟩
  | _, _, i + 1, t, .cons _ rs, e => by
    obtain ⟨v, h1, h2⟩ := VRs.get (i := i) (t := t) rs (by simpa using e)
    exact ⟨v, by simpa using h1, h2⟩
theorem VRs.get' : ∀ {ts : List T} {vs : List V} {i : Nat} {v : V}, VRs K m H ts vs → vs[i]? = some v → ∃ t, ts[i]? = some t ∧ VR K m H t v
  | _, _, _, _, .nil, e => by simp at e
  | _, _, 0, _, .cons r _, e => by simp at e; subst e; exact ⟨_, rfl, r⟩
  | _, _, i + 1, v, .cons _ rs, e => by
    obtain ⟨t, h1, h2⟩ := VRs.get' (i := i) (v := v) rs (by simpa using e)
    exact ⟨t, by simpa using h1, h2⟩
theorem VRs.append : ∀ {ts ts' : List T} {vs vs' : List V}, VRs K m H ts vs → VRs K m H ts' vs' → VRs K m H (ts ++ ts') (vs ++ vs')
  | _, _, _, _, .nil, h => h
  | _, _, _, _, .cons a b, h => .cons a (VRs.append b h)
theorem VRs.take : ∀ {ts : List T} {vs : List V} (n : Nat), VRs K m H ts vs → VRs K m H (ts.take n) (vs.take n)
  | _, _, 0, _ => by simpa using VRs.nil
  | _, _, _ + 1, .nil => by simpa using VRs.nil
  | _, _, n + 1, .cons a b => by simpa using VRs.cons a (VRs.take n b)
theorem VRs.drop : ∀ {ts : List T} {vs : List V} (n : Nat), VRs K m H ts vs → VRs K m H (ts.drop n) (vs.drop n)
  | _, _, 0, h => by simpa using h
  | _, _, _ + 1, .nil => by simpa using VRs.nil
  | _, _, n + 1, .cons a b => by simpa using VRs.drop n b
theorem VRs.set : ∀ {ts : List T} {vs : List V} (i : Nat) {t : T} {v : V}, VRs K m H ts vs → VR K m H t v → VRs K m H (ts.set i t) (vs.set i v)
  | _, _, _, _, _, .nil, _ => by simpa using VRs.nil
  | _, _, 0, _, _, .cons _ b, r => by simpa using VRs.cons r b
  | _, _, i + 1, _, _, .cons a b, r => by simpa using VRs.cons a (VRs.set i b r)
theorem VRs.eraseIdx : ∀ {ts : List T} {vs : List V} (i : Nat), VRs K m H ts vs → VRs K m H (ts.eraseIdx i) (vs.eraseIdx i)
  | _, _, _, .nil => by simpa using VRs.nil
  | _, _, 0, .cons _ b => by simpa using b
  | _, _, i + 1, .cons a b => by simpa using VRs.cons a (VRs.eraseIdx i b)
theorem VRs.dropLast : ∀ {ts : List T} {vs : List V}, VRs K m H ts vs → VRs K m H ts.dropLast vs.dropLast
  | _, _, .nil => .nil
  | _, _, .cons a .nil => .nil
  | _, _, .cons a (.cons b c) => .cons a (VRs.dropLast (.cons b c))
theorem VRs.reverse : ∀ {ts : List T} {vs : List V}, VRs K m H ts vs → VRs K m H ts.reverse vs.reverse
  | _, _, .nil => .nil
  | _, _, .cons a b => by simpa using VRs.append (VRs.reverse b) (.cons a .nil)
theorem VRs.ints : ∀ ns : List Int, VRs K m H (ns.map T.int) (ns.map V.int)
  | [] => .nil
  | n :: ns => .cons (.int n) (VRs.ints ns)
theorem VRs.strs : ∀ ns : List Str, VRs K m H (ns.map T.str) (ns.map V.str)
  | [] => .nil
  | n :: ns => .cons (.str n) (VRs.strs ns)
end

theorem nodup_at {α : Type} {N : List α} (hN : N.Nodup) {i j : Nat} {x : α} (a : N[i]? = some x) (b : N[j]? = some x) : i = j := by
  obtain ⟨h1, e1⟩ := List.getElem?_eq_some_iff.mp a
  obtain ⟨h2, e2⟩ := List.getElem?_eq_some_iff.mp b
  exact (List.getElem_inj hN).mp (e1.trans e2.symm)
/-! ### slots -/
inductive SR (K : PySem.W.Frag) (m : List Addr) (H : Hp) : Sl → L2.St → Prop
  | nil : SR K m H [] []
  | cons {ot : Option T} {ov : Option V} {ts : Sl} {vs : L2.St} : (∀ t, ot = some t → ∃ v, ov = some v ∧ VR K m H t v) → SR K m H ts vs → SR K m H (ot :: ts) (ov :: vs)
section
variable {K : PySem.W.Frag} {m m' : List Addr} {H H' : Hp}
theorem SR.mono (p : m <+: m') (k : Keep H H') : ∀ {σt : Sl} {σ : L2.St}, SR K m H σt σ → SR K m' H' σt σ
  | _, _, .nil => .nil
  | _, _, .cons h r => .cons (fun t e => let ⟨v, a, b⟩ := h t e; ⟨v, a, b.mono p k⟩) (SR.mono p k r)
theorem SR.get : ∀ {σt : Sl} {σ : L2.St} {i : Nat} {t : T}, SR K m H σt σ → σt[i]? = some (some t) → ∃ v, σ[i]? = some (some v) ∧ VR K m H t v
  | _, _, _, _, .nil, e => by simp at e
  | _, _, 0, t, .cons h _, e => by
    simp only [List.getElem?_cons_zero, Option.some.injEq] at e
    obtain ⟨v, a, b⟩ := h t e
    exact ⟨v, by simp [a], b⟩
  | _, _, i + 1, t, .cons _ r, e => by
    obtain ⟨v, a, b⟩ := SR.get (i := i) (t := t) r (by simpa using e)
    exact ⟨v, by simpa using a, b⟩
theorem SR.set : ∀ {σt : Sl} {σ : L2.St} (i : Nat) {t : T} {v : V}, SR K m H σt σ → VR K m H t v → SR K m H (σt.set i (some t)) (σ.set i (some v))
  | _, _, _, _, _, .nil, _ => by simpa using SR.nil
  | _, _, 0, _, _, .cons _ r, q => by simpa using SR.cons (fun t' e => by cases e; exact ⟨_, rfl, q⟩) r
  | _, _, i + 1, _, _, .cons h r, q => by simpa using SR.cons h (SR.set i r q)
theorem SR.setN : ∀ {σt : Sl} {σ : L2.St} (i : Nat), SR K m H σt σ → SR K m H (σt.set i none) (σ.set i none)
  | _, _, _, .nil => by simpa using SR.nil
  | _, _, 0, .cons _ r => by simpa using SR.cons (fun t' e => by cases e) r
  | _, _, i + 1, .cons h r => by simpa using SR.cons h (SR.setN i r)
def wipeT (σ : Sl) : List Nat → Sl
  | [] => σ
  | v :: vs => (wipeT σ vs).set v none
theorem SR.wipe {σt : Sl} {σ : L2.St} (h : SR K m H σt σ) : ∀ vs : List Nat, SR K m H (wipeT σt vs) (L2.wipe σ vs)
  | [] => h
  | v :: vs => (SR.wipe h vs).setN v
theorem SR.start : ∀ (n : Nat) {ts : List T} {vs : List V}, VRs K m H ts vs → SR K m H (ts.map some ++ List.replicate n none) (vs.map some ++ List.replicate n none)
  | 0, _, _, .nil => by simpa using SR.nil
  | n + 1, _, _, .nil => by
    have h : SR K m H (([] : List T).map some ++ List.replicate n none) (([] : List V).map some ++ List.replicate n none) := SR.start n .nil
    simp only [List.map_nil, List.nil_append] at h ⊢
    rw [List.replicate_succ, List.replicate_succ]
    exact .cons (fun t e => by cases e) h
  | n, _, _, .cons a b => by
    have h := SR.start n b
    simp only [List.map_cons, List.cons_append]
    exact .cons (fun t e => by cases e; exact ⟨_, rfl, a⟩) h
end

/-! ### the heap -/
structure Gc where
  P : Program
  w : World
  K : PySem.W.Frag
  mg : Str → Option Value
abbrev gc (X : Cx) : Gc := ⟨X.prog, X.w, X.K, X.mg⟩

def keyT : Key → T
  | .inl i => .int i
  | .inr x => .str x
mutual
/-- the key that a tuple (or what stands in one) is -/
def T.key : T → Option NestedKey
  | .non => some .none
  | .bl b => some (.num (if b = true then 1 else 0))
  | .int i => some (.num i)
  | .str x => some (.text x)
  | .tup ts => (T.keys ts).map .tup
  | .ref _ => none
  | .scr _ => none
def T.keys : List T → Option (List NestedKey)
  | [] => some []
  | t :: ts => match T.key t, T.keys ts with
    | some k, some ks => some (k :: ks)
    | _, _ => none
end
def KR (K : PySem.W.Frag) (m : List Addr) (H : Hp) : List (T × T) → List (Key × V) → Prop := Paired fun p q => p.1 = keyT q.1 ∧ VR K m H p.2 q.2
def TR (K : PySem.W.Frag) (m : List Addr) (H : Hp) : List (T × T) → List (NestedKey × Addr × Value) → Prop :=
  Paired fun p q => p.1.key = some q.1 ∧ (∃ ts, p.1 = .tup ts) ∧ q.1.depth ≤ 8 ∧ VR K [] H p.1 (.ref q.2.1) ∧ ∃ v, RelV v q.2.2 ∧ VR K m H p.2 v
def FR (K : PySem.W.Frag) (m : List Addr) (H : Hp) : List (Str × T) → List (Str × V) → Prop := Paired fun p q => p.1 = q.1 ∧ VR K m H p.2 q.2
/-- the object of a dict whose keys are tuples -/
structure DtO (G : Gc) (m : List Addr) (H : Hp) (a : Addr) (kvs : List (T × T)) (o : Obj) : Prop where
  ne : (a == sysModules) = false
  sz : kvs.length ≤ sizeLine
  ex : o.ExactDict
  en : ∃ es ep xs, o.data = .dict es ep ∧ es.toList = xs.map (entryOfKey (nestedKind G.P G.w)) ∧ (xs.map (·.1)).Nodup ∧ TR G.K m H kvs xs
def HOd (a : Addr) (o : Obj) : HO := .ext fun h => h.get? a = some o
/-- what stands at an object's address -/
def OR (G : Gc) (m : List Addr) (H : Hp) (a : Addr) : TO → Prop
  | .lst ts => ∃ xs, H a = some (.lst xs) ∧ VRs G.K m H ts xs
  | .dic kvs => ∃ xs, H a = some (.dK xs) ∧ KR G.K m H kvs xs
  | .dit kvs => ∃ o, H a = some (HOd a o) ∧ DtO G m H a kvs o
  | .lck kvs => ∃ od xs, H a = some (.frz od (.dK xs)) ∧ KR G.K m H kvs xs
  | .lct kvs => ∃ od o, H a = some (.frz od (HOd a o)) ∧ DtO G m H a kvs o
  | .ins C fs => ∃ Ca dx xs, G.mg C = some (.ref Ca) ∧ H a = some (.ins Ca dx xs) ∧ FR G.K m H fs xs
section
variable {G : Gc} {m m' : List Addr} {H H' : Hp} {a : Addr}
theorem KR.mono (p : m <+: m') (k : Keep H H') {kvs : List (T × T)} {xs : List (Key × V)} (h : KR G.K m H kvs xs) : KR G.K m' H' kvs xs := Paired.mapP h fun _ _ q => ⟨q.1, q.2.mono p k⟩
theorem FR.mono (p : m <+: m') (k : Keep H H') {kvs : List (Str × T)} {xs : List (Str × V)} (h : FR G.K m H kvs xs) : FR G.K m' H' kvs xs := Paired.mapP h fun _ _ q => ⟨q.1, q.2.mono p k⟩
theorem TR.mono (p : m <+: m') (k : Keep H H') {kvs : List (T × T)} {xs : List (NestedKey × Addr × Value)} (h : TR G.K m H kvs xs) : TR G.K m' H' kvs xs :=
  Paired.mapP h fun _ _ q => ⟨q.1, q.2.1, q.2.2.1, q.2.2.2.1.mono (List.prefix_refl _) k, let ⟨v, a, b⟩ := q.2.2.2.2; ⟨v, a, b.mono p k⟩⟩
theorem DtO.mono (p : m <+: m') (k : Keep H H') {kvs : List (T × T)} {o : Obj} (h : DtO G m H a kvs o) : DtO G m' H' a kvs o :=
  ⟨h.ne, h.sz, h.ex, let ⟨es, ep, xs, e1, e2, e3, e4⟩ := h.en; ⟨es, ep, xs, e1, e2, e3, e4.mono (G := G) p k⟩⟩
theorem OR.mono (p : m <+: m') (k : Keep H H') (e : H' a = H a) : ∀ {o : TO}, OR G m H a o → OR G m' H' a o
  | .lst _, ⟨xs, h, r⟩ => ⟨xs, e.trans h, r.mono p k⟩
  | .dic _, ⟨xs, h, r⟩ => ⟨xs, e.trans h, r.mono (G := G) p k⟩
  | .dit _, ⟨o, h, r⟩ => ⟨o, e.trans h, r.mono p k⟩
  | .lck _, ⟨od, xs, h, r⟩ => ⟨od, xs, e.trans h, r.mono (G := G) p k⟩
  | .lct _, ⟨od, o, h, r⟩ => ⟨od, o, e.trans h, r.mono p k⟩
  | .ins _ _, ⟨Ca, dx, xs, h1, h, r⟩ => ⟨Ca, dx, xs, h1, e.trans h, r.mono (G := G) p k⟩
/-- such an address is no tuple's, nor the script's -/
theorem OR.not {o : TO} (h : OR G m H a o) : (∀ ob xs, H a ≠ some (.frz ob (.tup xs))) ∧ (∀ ob xs, H a ≠ some (.frz ob (.lst xs))) ∧ ∃ u, H a = some u := by
  have key : ∀ u, H a = some u → (∀ ob xs, u ≠ .frz ob (.tup xs)) → (∀ ob xs, u ≠ .frz ob (.lst xs)) → (∀ ob xs, H a ≠ some (.frz ob (.tup xs))) ∧ (∀ ob xs, H a ≠ some (.frz ob (.lst xs))) ∧ ∃ u, H a = some u := by
    intro u e h2 h3
    exact ⟨fun ob xs z => by rw [e] at z; exact h2 ob xs (Option.some.inj z), fun ob xs z => by rw [e] at z; exact h3 ob xs (Option.some.inj z), u, e⟩
  cases o with
  | lst _ => obtain ⟨_, e, _⟩ := h; exact key _ e (fun _ _ z => by cases z) (fun _ _ z => by cases z)
  | dic _ => obtain ⟨_, e, _⟩ := h; exact key _ e (fun _ _ z => by cases z) (fun _ _ z => by cases z)
  | dit _ => obtain ⟨_, e, _⟩ := h; exact key _ e (fun _ _ z => by cases z) (fun _ _ z => by cases z)
  | lck _ => obtain ⟨_, _, e, _⟩ := h; exact key _ e (fun _ _ z => by cases z) (fun _ _ z => by cases z)
  | lct _ => obtain ⟨_, _, e, _⟩ := h; exact key _ e (fun _ _ z => by cases z) (fun _ _ z => by cases z)
  | ins _ _ => obtain ⟨_, _, _, _, e, _⟩ := h; exact key _ e (fun _ _ z => by cases z) (fun _ _ z => by cases z)
end
/-- the objects stand where m says -/
structure Rel (G : Gc) (m : List Addr) (th : TH) (H : Hp) : Prop where
  len : m.length = th.length
  nd : m.Nodup
  at_ : ∀ (i : Nat) (a : Addr) (o : TO), m[i]? = some a → th[i]? = some o → OR G m H a o
/-- m, H grow to m', H': new objects stand at new places; what is not of m stays -/
structure Ext (m : List Addr) (H : Hp) (m' : List Addr) (H' : Hp) : Prop where
  pre : m <+: m'
  new : ∀ a ∈ m', a ∉ m → H a = none
  fr : ∀ a o, H a = some o → a ∉ m → H' a = some o
  kp : Keep H H'
section
variable {G : Gc} {m m' m1 m2 : List Addr} {H H' H1 H2 : Hp} {a p : Addr} {th : TH}
theorem Ext.refl (m : List Addr) (H : Hp) : Ext m H m H := ⟨List.prefix_refl _, fun _ h1 h2 => absurd h1 h2, fun _ _ h _ => h, Keep.refl H⟩
theorem Ext.trans (x : Ext m H m1 H1) (y : Ext m1 H1 m2 H2) : Ext m H m2 H2 := by
  refine ⟨x.pre.trans y.pre, fun a h2 h => ?_, fun a o h h0 => ?_, x.kp.trans y.kp⟩
  · by_cases h1 : a ∈ m1
    · exact x.new a h1 h
    · have q := y.new a h2 h1
      cases e : H a with
      | none => rfl
      | some o => rw [x.fr a o e h] at q; cases q
  · have q := x.fr a o h h0
    refine y.fr a o q fun h1 => ?_
    rw [x.new a h1 h0] at h; cases h
theorem Rel.get (R : Rel G m th H) {i : Nat} {o : TO} (h : th[i]? = some o) : ∃ a, m[i]? = some a ∧ OR G m H a o := by
  have hi : i < th.length := (List.getElem?_eq_some_iff.mp h).1
  have hi' : i < m.length := by rw [R.len]; exact hi
  have e : m[i]? = some m[i] := List.getElem?_eq_getElem hi'
  exact ⟨m[i], e, R.at_ i _ o e h⟩
theorem Rel.mem (R : Rel G m th H) (h : a ∈ m) : ∃ (i : Nat) (o : TO), m[i]? = Option.some a ∧ th[i]? = Option.some o ∧ OR G m H a o := by
  obtain ⟨i, hi, e⟩ := List.getElem_of_mem h
  have e' : m[i]? = some a := by rw [List.getElem?_eq_getElem hi, e]
  have hi' : i < th.length := by rw [← R.len]; exact hi
  exact ⟨i, th[i], e', List.getElem?_eq_getElem hi', R.at_ i a _ e' (List.getElem?_eq_getElem hi')⟩
theorem Rel.some (R : Rel G m th H) (h : a ∈ m) : ∃ u, H a = some u := let ⟨_, _, _, _, q⟩ := R.mem h; q.not.2.2
theorem Rel.fresh (R : Rel G m th H) (h : H p = none) : p ∉ m := fun hm => by
  obtain ⟨u, e⟩ := R.some hm
  rw [h] at e; cases e
/-- a store at an object: nothing but it changes -/
theorem keep_upd (h1 : ∀ ob xs, H a ≠ Option.some (.frz ob (.tup xs))) (h2 : ∀ ob xs, H a ≠ Option.some (.frz ob (.lst xs))) (o : HO) : Keep H (upd H a o) := by
  refine ⟨fun b ob xs h => ?_, fun b ob xs h => ?_⟩
  · have hb : b ≠ a := fun e => by subst e; exact h1 ob xs h
    rw [upd_ne hb]; exact h
  · have hb : b ≠ a := fun e => by subst e; exact h2 ob xs h
    rw [upd_ne hb]; exact h
theorem keep_new (h : H p = none) (o : HO) : Keep H (upd H p o) := by
  refine ⟨fun b ob xs q => ?_, fun b ob xs q => ?_⟩
  · have hb : b ≠ p := fun e => by subst e; rw [h] at q; cases q
    rw [upd_ne hb]; exact q
  · have hb : b ≠ p := fun e => by subst e; rw [h] at q; cases q
    rw [upd_ne hb]; exact q
theorem Rel.store (R : Rel G m th H) {i : Nat} (hm : m[i]? = Option.some a) {o o' : TO} (ho : th[i]? = Option.some o) (u : HO) (new : OR G m (upd H a u) a o') : Rel G m (th.set i o') (upd H a u) ∧ Ext m H m (upd H a u) := by
  obtain ⟨n1, n2, n3⟩ := (R.at_ i a o hm ho).not
  have k := keep_upd n1 n2 u
  refine ⟨⟨by simp [R.len], R.nd, fun j b q hb hq => ?_⟩, ⟨List.prefix_refl _, fun _ h1 h2 => absurd h1 h2, fun b q h1 h2 => ?_, k⟩⟩
  · by_cases hj : j = i
    · subst hj
      rw [hm] at hb; cases hb
      rw [List.getElem?_set_self (List.getElem?_eq_some_iff.mp ho).1] at hq
      cases hq
      exact new
    · rw [List.getElem?_set_ne (Ne.symm hj)] at hq
      have hba : b ≠ a := fun e => by
        subst e
        exact hj (nodup_at R.nd hb hm)
      exact (R.at_ j b q hb hq).mono (List.prefix_refl _) k (upd_ne hba)
  · have hb : b ≠ a := fun e => h2 (by rw [e]; exact List.mem_of_getElem? hm)
    rw [upd_ne hb]; exact h1
theorem Rel.push (R : Rel G m th H) (hp : H p = none) (u : HO) (o : TO) (new : OR G (m ++ [p]) (upd H p u) p o) : Rel G (m ++ [p]) (th ++ [o]) (upd H p u) ∧ Ext m H (m ++ [p]) (upd H p u) := by
  have k := keep_new hp u
  have pf : p ∉ m := R.fresh hp
  refine ⟨⟨by simp [R.len], ?_, fun j b q hb hq => ?_⟩, ⟨List.prefix_append _ _, fun b h1 h2 => ?_, fun b q h1 h2 => ?_, k⟩⟩
  · rw [List.nodup_append]
    refine ⟨R.nd, by simp, fun b hb c hc => ?_⟩
    have : c = p := by simpa using hc
    subst this
    exact fun e => pf (e ▸ hb)
  · by_cases hj : j < m.length
    · rw [List.getElem?_append_left hj] at hb
      rw [List.getElem?_append_left (by rw [← R.len]; exact hj)] at hq
      have hba : b ≠ p := fun e => pf (e ▸ List.mem_of_getElem? hb)
      exact (R.at_ j b q hb hq).mono (List.prefix_append _ _) k (upd_ne hba)
    · rw [List.getElem?_append_right (by omega)] at hb
      rw [List.getElem?_append_right (by rw [← R.len]; omega)] at hq
      have e0 : j - m.length = 0 := by
        by_cases h : j - m.length = 0
        · exact h
        · rw [List.getElem?_eq_none (by simp; omega)] at hb; cases hb
      rw [e0] at hb
      have e1 : j - th.length = 0 := by rw [← R.len]; exact e0
      rw [e1] at hq
      simp only [List.getElem?_cons_zero, Option.some.injEq] at hb hq
      subst hb hq
      exact new
  · have h3 : b ∈ m ∨ b = p := by simpa using h1
    rcases h3 with h3 | h3
    · exact absurd h3 h2
    · rw [h3]; exact hp
  · rw [upd_ne (fun e => by rw [e, hp] at h1; cases h1)]; exact h1
/-- a new thing that is none of ours (a tuple) -/
theorem Rel.aside (R : Rel G m th H) (hp : H p = none) (u : HO) : Rel G m th (upd H p u) ∧ Ext m H m (upd H p u) := by
  have k := keep_new hp u
  have pf : p ∉ m := R.fresh hp
  refine ⟨⟨R.len, R.nd, fun j b q hb hq => ?_⟩, ⟨List.prefix_refl _, fun b h1 h2 => absurd h1 h2, fun b q h1 h2 => ?_, k⟩⟩
  · exact (R.at_ j b q hb hq).mono (List.prefix_refl _) k (upd_ne fun e => pf (e ▸ List.mem_of_getElem? hb))
  · rw [upd_ne (fun e => by rw [e, hp] at h1; cases h1)]; exact h1
theorem push_at : (m ++ [p])[m.length]? = Option.some p := by simp
end

/-! ### pending results -/
abbrev EOb := Str → List (Str × T) → List Addr → TH → Hp → Prop
abbrev EO0 : EOb := fun _ _ _ _ _ => False
/-- what is wanted of a result: Φ of a value, EO of an exception -/
def Pn {α : Type} (G : Gc) (EO : EOb) (m : List Addr) (H : Hp) (r : Res α) (Φ : α → TH → List Addr → Hp → Prop) : Prop := match r with
  | .ok t th => ∀ m' H', Ext m H m' H' → Rel G m' th H' → Φ t th m' H'
  | .exc c fs th => ∀ m' H', Ext m H m' H' → Rel G m' th H' → EO c fs m' th H'
  | .stuck => False
section
variable {α β : Type} {G : Gc} {EO : EOb} {m m1 : List Addr} {H H1 : Hp}
theorem Pn.bind {r : Res α} {f : α → TH → Res β} {Φ : β → TH → List Addr → Hp → Prop} (h : Pn G EO m H (r.bind f) Φ) : Pn G EO m H r fun t th m1 H1 => Pn G EO m1 H1 (f t th) Φ := by
  cases r with
  | ok t th =>
    intro m1 H1 x _
    have h : Pn G EO m H (f t th) Φ := h
    cases e : f t th with
    | ok u th2 => rw [e] at h; exact fun m2 H2 y R => h m2 H2 (x.trans y) R
    | exc c fs th2 => rw [e] at h; exact fun m2 H2 y R => h m2 H2 (x.trans y) R
    | stuck => rw [e] at h; exact h
  | exc c fs th => exact h
  | stuck => exact h
theorem Pn.imp {r : Res α} {Φ Ψ : α → TH → List Addr → Hp → Prop} (h : Pn G EO m H r Φ) (f : ∀ t th m' H', Ext m H m' H' → Rel G m' th H' → Φ t th m' H' → Ψ t th m' H') : Pn G EO m H r Ψ := by
  cases r with
  | ok t th => exact fun m' H' x R => f t th m' H' x R (h m' H' x R)
  | exc c fs th => exact h
  | stuck => exact h
theorem Pn.ext {r : Res α} {Φ : α → TH → List Addr → Hp → Prop} (h : Pn G EO m H r Φ) (x : Ext m H m1 H1) : Pn G EO m1 H1 r Φ := by
  cases r with
  | ok t th => exact fun m' H' y R => h m' H' (x.trans y) R
  | exc c fs th => exact fun m' H' y R => h m' H' (x.trans y) R
  | stuck => exact h
theorem Pn.done {t : α} {th : TH} {Φ : α → TH → List Addr → Hp → Prop} (h : Pn G EO m H (.ok t th) Φ) (R : Rel G m th H) : Φ t th m H := h m H (Ext.refl m H) R
end
/-- the reading of an expression by its denotation -/
def tD (G : Gc) (EO : EOb) (d : ME) : TE := fun σ H Q => ∃ m σt th, SR G.K m H σt σ ∧ Rel G m th H ∧ Pn G EO m H (d σt th) fun t _ m' H' => ∀ v, VR G.K m' H' t v → Q v H'
structure DE (X : Cx) (EO : EOb) (e : Expr) (d : ME) : Prop where
  pe : PE X e (tD (gc X) EO d)
/-- a test -/
abbrev MB := Sl → TH → Res Bool
def tDT (G : Gc) (EO : EOb) (d : MB) : TT := fun σ H Q => ∃ m σt th, SR G.K m H σt σ ∧ Rel G m th H ∧ Pn G EO m H (d σt th) fun b _ _ H' => Q b H'
structure DT (X : Cx) (EO : EOb) (e : Expr) (d : MB) : Prop where
  pt : PT X e (tDT (gc X) EO d)
/-- arguments -/
abbrev ML := Sl → TH → Res (List T)
def tDA (G : Gc) (EO : EOb) (d : ML) : TA := fun σ H Q => ∃ m σt th, SR G.K m H σt σ ∧ Rel G m th H ∧ Pn G EO m H (d σt th) fun ts _ m' H' => ∀ vs, VRs G.K m' H' ts vs → Q vs H'
structure DA (X : Cx) (EO : EOb) (es : List Expr) (d : ML) : Prop where
  pa : PA X es (tDA (gc X) EO d)
/-- statements -/
inductive SRes where
  | nx (σ : Sl) (h : TH) | rt (t : T) (h : TH) | bk (σ : Sl) (h : TH) | ct (σ : Sl) (h : TH) | exc (c : Str) (fs : List (Str × T)) (h : TH) | stuck
abbrev MS := Sl → TH → SRes
def PnS (G : Gc) (EO : EOb) (m : List Addr) (H : Hp) (r : SRes) (D : Ends) : Prop := match r with
  | .nx σt th => ∀ m' H' σ, Ext m H m' H' → Rel G m' th H' → SR G.K m' H' σt σ → D.nx σ H'
  | .rt t th => ∀ m' H' v, Ext m H m' H' → Rel G m' th H' → VR G.K m' H' t v → D.rt v H'
  | .bk σt th => ∀ m' H' σ, Ext m H m' H' → Rel G m' th H' → SR G.K m' H' σt σ → D.bk σ H'
  | .ct σt th => ∀ m' H' σ, Ext m H m' H' → Rel G m' th H' → SR G.K m' H' σt σ → D.ct σ H'
  | .exc c fs th => ∀ m' H', Ext m H m' H' → Rel G m' th H' → EO c fs m' th H'
  | .stuck => False
def tDS (G : Gc) (EO : EOb) (d : MS) : TS := fun D σ H => ∃ m σt th, SR G.K m H σt σ ∧ Rel G m th H ∧ PnS G EO m H (d σt th) D
structure DS (X : Cx) (EO : EOb) (s : Stmt) (d : MS) : Prop where
  ps : PS X s (tDS (gc X) EO d)
structure DSs (X : Cx) (EO : EOb) (s : List Stmt) (d : MS) : Prop where
  pss : PSs X s (tDS (gc X) EO d)
def SRes.of {α : Type} (r : Res α) (f : α → TH → SRes) : SRes := match r with
  | .ok a h => f a h
  | .exc c fs h => .exc c fs h
  | .stuck => .stuck
@[simp] theorem of_ok {α : Type} (a : α) (h : TH) (f : α → TH → SRes) : SRes.of (.ok a h) f = f a h := rfl
@[simp] theorem of_exc {α : Type} (c : Str) (fs : List (Str × T)) (h : TH) (f : α → TH → SRes) : SRes.of (.exc c fs h : Res α) f = .exc c fs h := rfl
@[simp] theorem of_stuck {α : Type} (f : α → TH → SRes) : SRes.of (.stuck : Res α) f = .stuck := rfl
def SRes.then (r : SRes) (f : Sl → TH → SRes) : SRes := match r with
  | .nx σ h => f σ h
  | r => r
section
variable {α : Type} {G : Gc} {EO : EOb} {m m1 : List Addr} {H H1 : Hp} {D : Ends}
theorem PnS.ext {r : SRes} (h : PnS G EO m H r D) (x : Ext m H m1 H1) : PnS G EO m1 H1 r D := by
  cases r with
  | nx => exact fun m' H' v y R q => h m' H' v (x.trans y) R q
  | rt => exact fun m' H' v y R q => h m' H' v (x.trans y) R q
  | bk => exact fun m' H' v y R q => h m' H' v (x.trans y) R q
  | ct => exact fun m' H' v y R q => h m' H' v (x.trans y) R q
  | exc => exact fun m' H' y R => h m' H' (x.trans y) R
  | stuck => exact h
theorem PnS.of {r : Res α} {f : α → TH → SRes} (h : PnS G EO m H (SRes.of r f) D) : Pn G EO m H r fun t th m1 H1 => PnS G EO m1 H1 (f t th) D := by
  cases r with
  | ok t th => exact fun m1 H1 x _ => PnS.ext (show PnS G EO m H (f t th) D from h) x
  | exc => exact h
  | stuck => exact h
theorem PnS.seq {r : SRes} {f : Sl → TH → SRes} (h : PnS G EO m H (r.then f) D) : PnS G EO m H r { D with nx := fun σ H1 => ∃ m1 σt th, SR G.K m1 H1 σt σ ∧ Rel G m1 th H1 ∧ PnS G EO m1 H1 (f σt th) D } := by
  cases r with
  | nx σt th => exact fun m1 H1 σ x R q => ⟨m1, σt, th, q, R, PnS.ext (show PnS G EO m H (f σt th) D from h) x⟩
  | rt => exact h
  | bk => exact h
  | ct => exact h
  | exc => exact h
  | stuck => exact h
end
end TL

/-! T-layer, part B: expressions by their denotations. -/
namespace TL
open PySem PySem.Spec PyProof.Rows L2

theorem _root_.L2.PE.of {X : Cx} {e : Expr} {t t' : TE} (h : PE X e t) (f : ∀ σ H Q, t' σ H Q → t σ H Q) : PE X e t' := ⟨fun pins s σ H Q I w => h.run pins s σ H Q I (f σ H Q w)⟩
theorem _root_.L2.PT.of {X : Cx} {e : Expr} {t t' : TT} (h : PT X e t) (f : ∀ σ H Q, t' σ H Q → t σ H Q) : PT X e t' := ⟨fun pins s σ H Q I w => h.run pins s σ H Q I (f σ H Q w)⟩
theorem _root_.L2.PW.of {X : Cx} {e : Expr} {t t' : TT} (h : PW X e t) (f : ∀ σ H Q, t' σ H Q → t σ H Q) : PW X e t' := ⟨fun wh pins s σ H Q I w => h.run wh pins s σ H Q I (f σ H Q w)⟩
theorem _root_.L2.PA.of {X : Cx} {e : List Expr} {t t' : TA} (h : PA X e t) (f : ∀ σ H Q, t' σ H Q → t σ H Q) : PA X e t' := ⟨fun p pins s σ H Q I w => h.run p pins s σ H Q I (f σ H Q w)⟩
theorem _root_.L2.PS.of {X : Cx} {e : Stmt} {t t' : TS} (h : PS X e t) (f : ∀ D σ H, t' D σ H → t D σ H) : PS X e t' := ⟨fun pins s σ H D I w => h.run pins s σ H D I (f D σ H w)⟩
theorem _root_.L2.PSs.of {X : Cx} {e : List Stmt} {t t' : TS} (h : PSs X e t) (f : ∀ D σ H, t' D σ H → t D σ H) : PSs X e t' := ⟨fun pins s σ H D I w => h.run pins s σ H D I (f D σ H w)⟩

section
variable {X : Cx} {EO : EOb} {pos : Pos}
/-! ### names, constants -/
def eVar (i : Nat) : ME := fun σ h => match σ[i]? with
  | some (some t) => .ok t h
  | _ => .stuck
theorem de_var {i : Nat} {x : Str} (hN : X.N[i]? = some x := by rfl) (hv : Vis X.env.scope x := by first | exact Or.inl rfl | exact Or.inr (Or.inl rfl) | exact Or.inr (Or.inr rfl)) (hd : (x == ("__debug__" : Str)) = false := by decide)
    (hcd : (x == ("__classdict__" : Str)) = false := by decide) : DE X EO (.Name x pos) (eVar i) := by
  refine ⟨(pe_var hN hv hd hcd).of fun σ H Q ⟨m, σt, th, sr, R, h⟩ => ?_⟩
  unfold eVar at h
  split at h
  · rename_i t e
    obtain ⟨v, e2, vr⟩ := sr.get e
    exact ⟨v, e2, h.done R v vr⟩
  · exact h.elim
def eC (t : T) : ME := fun _ h => .ok t h
theorem de_c {e : Expr} {v : V} {t : T} (h : PE X e (tC v)) (r : ∀ m H, VR X.K m H t v) : DE X EO e (eC t) :=
  ⟨h.of fun σ H Q ⟨m, σt, th, sr, R, h⟩ => h.done R v (r m H)⟩
theorem de_int {i : Int} {j : Nat} : DE X EO (.Constant (.int i) j pos) (eC (.int i)) := de_c pe_int fun _ _ => .int i
theorem de_bl {b : Bool} {j : Nat} : DE X EO (.Constant (.bool b) j pos) (eC (.bl b)) := de_c pe_bl fun _ _ => .bl b
theorem de_non {j : Nat} : DE X EO (.Constant .none j pos) (eC .non) := de_c pe_non fun _ _ => .non
theorem de_str {x : Str} {j : Nat} : DE X EO (.Constant (.str x) j pos) (eC (.str x)) := de_c pe_str fun _ _ => .str x
/-- a module's constant -/
def GlV (K : PySem.W.Frag) (mg : Str → Option Value) (x : Str) (t : T) : Prop := ∃ u v, mg x = some u ∧ RelV v u ∧ ∀ m H, VR K m H t v
theorem de_glob {x : Str} {t : T} (g : GlV X.K X.mg x t) (hg : Gl X x := by rfl) (hd : (x == ("__debug__" : Str)) = false := by decide) : DE X EO (.Name x pos) (eC t) := by
  obtain ⟨u, v, hm, r, vr⟩ := g
  exact de_c (pe_glob hg hm r hd) vr

/-! ### two-place operations -/
abbrev Op2 := T → T → TH → Res T
abbrev WT (G : Gc) (EO : EOb) (m : List Addr) (H : Hp) (r : Res T) (Q : VK) : Prop := Pn G EO m H r fun t _ m' H' => ∀ v, VR G.K m' H' t v → Q v H'
def rT (G : Gc) (EO : EOb) (f : Op2) : R2 := fun x y H Q => ∃ m th a b, Rel G m th H ∧ VR G.K m H a x ∧ VR G.K m H b y ∧ WT G EO m H (f a b th) Q
abbrev OpF (X : Cx) (EO : EOb) (F : Value → Value → Sem Value) (f : Op2) : Prop := OpR X F (rT (gc X) EO f)
def eBin (f : Op2) (a b : ME) : ME := fun σ h => (a σ h).bind fun x h1 => (b σ h1).bind fun y h2 => f x y h2
theorem tOp_of {G : Gc} {f : Op2} {da db : ME} (σ : L2.St) (H : Hp) (Q : VK) (w : tD G EO (eBin f da db) σ H Q) : tOp (rT G EO f) (tD G EO da) (tD G EO db) σ H Q := by
  obtain ⟨m, σt, th, sr, R, h⟩ := w
  refine ⟨m, σt, th, sr, R, h.bind.imp fun t th1 m1 H1 x R1 h1 v vr => ⟨m1, σt, th1, sr.mono x.pre x.kp, R1, h1.bind.imp fun t2 th2 m2 H2 x2 R2 h2 v2 vr2 => ⟨m2, th2, t, t2, R2, vr.mono x2.pre x2.kp, vr2, h2⟩⟩⟩
variable {a b c : Expr} {da db dc : ME} {f f' : Op2}
theorem de_bin {op : Operator} (ho : OpF X EO (binaryOp op) f) (ha : DE X EO a da) (hb : DE X EO b db) : DE X EO (.BinOp a op b pos) (eBin f da db) := ⟨(pe_op ho ha.pe hb.pe).of tOp_of⟩
theorem de_cmp {op : CmpOp} (ho : OpF X EO (compareOp op) f) (ha : DE X EO a da) (hb : DE X EO b db) (hm : behindInMarks op b = false := by first | exact nomark _ | with_unfolding_all rfl) : DE X EO (.Compare a [op] [b] pos) (eBin f da db) := ⟨(pe_cmpR ho ha.pe hb.pe hm).of tOp_of⟩
/-- a value that is a bool, as a test -/
def mB (a : ME) : MB := fun σ h => (a σ h).bind fun t h => match t with
  | .bl b => .ok b h
  | _ => .stuck
theorem tB_of {G : Gc} {d : ME} (σ : L2.St) (H : Hp) (Q : Bool → Hp → Prop) (w : tDT G EO (mB d) σ H Q) : tD G EO d σ H fun x H' => ∃ k, x = .bl k ∧ Q k H' := by
  obtain ⟨m, σt, th, sr, R, h⟩ := w
  refine ⟨m, σt, th, sr, R, h.bind.imp fun t th1 m1 H1 x R1 h1 v vr => ?_⟩
  cases vr with
  | bl b => exact ⟨b, rfl, h1.done R1⟩
  | _ => exact h1.elim
theorem dt_cmp {op : CmpOp} (ho : OpF X EO (compareOp op) f) (ha : DE X EO a da) (hb : DE X EO b db) (hm : behindInMarks op b = false := by first | exact nomark _ | with_unfolding_all rfl) : DT X EO (.Compare a [op] [b] pos) (mB (eBin f da db)) :=
  ⟨(pt_cmpR ho ha.pe hb.pe hm).of fun σ H Q w => tOp_of _ _ _ (tB_of σ H Q w)⟩
theorem dt_val {e : Expr} {d : ME} (h : DE X EO e d) (he : ∀ whole, isTrue e X.env whole = (do let v ← whole; standAt e.pos; holding [v] (truthy v)) := by intro _; rfl) : DT X EO e (mB d) :=
  ⟨(pt_val h.pe he).of fun σ H Q w => tB_of σ H Q w⟩
/-- a chain of two comparisons -/
def eChain (f f' : Op2) (a b c : ME) : ME := fun σ h => (a σ h).bind fun x h1 => (b σ h1).bind fun y h2 => (f x y h2).bind fun z h3 => match z with
  | .bl true => (c σ h3).bind fun w h4 => f' y w h4
  | .bl false => .ok (.bl false) h3
  | _ => .stuck
theorem tChain_of {G : Gc} (σ : L2.St) (H : Hp) (Q : VK) (w : tD G EO (eChain f f' da db dc) σ H Q) : tChain (rT G EO f) (rT G EO f') (tD G EO da) (tD G EO db) (tD G EO dc) σ H Q := by
  obtain ⟨m, σt, th, sr, R, h⟩ := w
  refine ⟨m, σt, th, sr, R, h.bind.imp fun t th1 m1 H1 x R1 h1 v vr => ⟨m1, σt, th1, sr.mono x.pre x.kp, R1, h1.bind.imp fun t2 th2 m2 H2 x2 R2 h2 v2 vr2 =>
    ⟨m2, th2, t, t2, R2, vr.mono x2.pre x2.kp, vr2, h2.bind.imp fun t3 th3 m3 H3 x3 R3 h3 v3 vr3 => ?_⟩⟩⟩
  cases vr3 with
  | bl k =>
    refine ⟨k, rfl, ?_⟩
    have x13 := x2.trans x3
    cases k with
    | true => exact iteT ⟨m3, σt, th3, (sr.mono x.pre x.kp).mono x13.pre x13.kp, R3, Pn.imp (Pn.bind h3) fun t4 th4 m4 H4 x4 R4 h4 v4 vr4 => ⟨m4, th4, t2, t4, R4, (vr2.mono x3.pre x3.kp).mono x4.pre x4.kp, vr4, h4⟩⟩
    | false => exact iteF (Pn.done h3 R3 _ (.bl false))
  | _ => exact h3.elim
theorem de_chain {op op' : CmpOp} (ho : OpF X EO (compareOp op) f) (ho' : OpF X EO (compareOp op') f') (ha : DE X EO a da) (hb : DE X EO b db) (hc : DE X EO c dc) (hm : lastMarks [op, op'] [b, c] = false := by with_unfolding_all rfl) :
    DE X EO (.Compare a [op, op'] [b, c] pos) (eChain f f' da db dc) := ⟨(pe_chain ho ho' ha.pe hb.pe hc.pe hm).of tChain_of⟩
theorem dt_chain {op op' : CmpOp} (ho : OpF X EO (compareOp op) f) (ho' : OpF X EO (compareOp op') f') (ha : DE X EO a da) (hb : DE X EO b db) (hc : DE X EO c dc) (hm : lastMarks [op, op'] [b, c] = false := by with_unfolding_all rfl) :
    DT X EO (.Compare a [op, op'] [b, c] pos) (mB (eChain f f' da db dc)) := ⟨(pt_chain ho ho' ha.pe hb.pe hc.pe hm).of fun σ H Q w => tChain_of _ _ _ (tB_of σ H Q w)⟩
def eUn (f : T → TH → Res T) (a : ME) : ME := fun σ h => (a σ h).bind f
def fNeg : T → TH → Res T := fun t h => match t with
  | .int i => .ok (.int (-i)) h
  | _ => .stuck
theorem de_neg (ha : DE X EO a da) : DE X EO (.UnaryOp .USub a pos) (eUn fNeg da) := by
  refine ⟨(pe_un un_neg ha.pe).of fun σ H Q ⟨m, σt, th, sr, R, h⟩ => ⟨m, σt, th, sr, R, h.bind.imp fun t th1 m1 H1 x R1 h1 v vr => ?_⟩⟩
  cases vr with
  | int i => exact ⟨i, rfl, Pn.done h1 R1 _ (.int _)⟩
  | _ => exact h1.elim

/-! ### tests -/
variable {rest : List Expr} {ta tb : MB}
structure DW (X : Cx) (EO : EOb) (e : Expr) (d : MB) : Prop where
  pw : PW X e (tDT (gc X) EO d)
theorem DW.dt {e : Expr} {d : MB} (h : DW X EO e d) : DT X EO e d := ⟨h.pw.pt⟩
def mAnd (a b : MB) : MB := fun σ h => (a σ h).bind fun c h1 => if c = true then b σ h1 else .ok false h1
def mOr (a b : MB) : MB := fun σ h => (a σ h).bind fun c h1 => if c = true then .ok true h1 else b σ h1
def mNot (a : MB) : MB := fun σ h => (a σ h).bind fun c h1 => .ok (!c) h1
theorem tAnd_of {G : Gc} (σ : L2.St) (H : Hp) (Q : Bool → Hp → Prop) (w : tDT G EO (mAnd ta tb) σ H Q) : tAnd (tDT G EO ta) (tDT G EO tb) σ H Q := by
  obtain ⟨m, σt, th, sr, R, h⟩ := w
  refine ⟨m, σt, th, sr, R, h.bind.imp fun c th1 m1 H1 x R1 h1 => ?_⟩
  cases c with
  | true => exact iteT ⟨m1, σt, th1, sr.mono x.pre x.kp, R1, h1⟩
  | false => exact iteF (Pn.done h1 R1)
theorem tOr_of {G : Gc} (σ : L2.St) (H : Hp) (Q : Bool → Hp → Prop) (w : tDT G EO (mOr ta tb) σ H Q) : tOr (tDT G EO ta) (tDT G EO tb) σ H Q := by
  obtain ⟨m, σt, th, sr, R, h⟩ := w
  refine ⟨m, σt, th, sr, R, h.bind.imp fun c th1 m1 H1 x R1 h1 => ?_⟩
  cases c with
  | true => exact iteT (Pn.done h1 R1)
  | false => exact iteF ⟨m1, σt, th1, sr.mono x.pre x.kp, R1, h1⟩
theorem dw_and1 (h : DT X EO a ta) : DW X EO (.BoolOp .And [a] pos) ta := ⟨pw_and1 h.pt⟩
theorem dw_or1 (h : DT X EO a ta) : DW X EO (.BoolOp .Or [a] pos) ta := ⟨pw_or1 h.pt⟩
theorem dw_and (h : DT X EO a ta) (h2 : DW X EO (.BoolOp .And (b :: rest) pos) tb) : DW X EO (.BoolOp .And (a :: b :: rest) pos) (mAnd ta tb) := ⟨(pw_and h.pt h2.pw).of tAnd_of⟩
theorem dw_or (h : DT X EO a ta) (h2 : DW X EO (.BoolOp .Or (b :: rest) pos) tb) : DW X EO (.BoolOp .Or (a :: b :: rest) pos) (mOr ta tb) := ⟨(pw_or h.pt h2.pw).of tOr_of⟩
theorem dt_not (h : DT X EO a ta) : DT X EO (.UnaryOp .Not a pos) (mNot ta) := by
  refine ⟨(pt_not h.pt).of fun σ H Q ⟨m, σt, th, sr, R, h⟩ => ⟨m, σt, th, sr, R, h.bind.imp fun c th1 m1 H1 x R1 h1 => ?_⟩⟩
  exact Pn.done h1 R1
/-- a test as a value: and, or, not where all parts are bools -/
def eB (t : MB) : ME := fun σ h => (t σ h).bind fun b h => .ok (.bl b) h
def eAnd (a b : ME) : ME := fun σ h => (mB a σ h).bind fun c h1 => if c = true then b σ h1 else .ok (.bl false) h1
def eOr (a b : ME) : ME := fun σ h => (mB a σ h).bind fun c h1 => if c = true then .ok (.bl true) h1 else b σ h1
def eNot (a : ME) : ME := fun σ h => (mB a σ h).bind fun c h1 => .ok (.bl (!c)) h1
theorem de_one {op : BoolOp} (h : DE X EO a da) : DE X EO (.BoolOp op [a] pos) da := ⟨pe_one h.pe⟩
theorem mB_bl {G : Gc} {m : List Addr} {H : Hp} {d : ME} {σt : Sl} {th : TH} {α : Type} {k : Bool → TH → Res α} {Φ : α → TH → List Addr → Hp → Prop} (h : Pn G EO m H ((mB d σt th).bind k) Φ) :
    Pn G EO m H (d σt th) fun t th1 m1 H1 => ∀ v, VR G.K m1 H1 t v → ∃ c, v = .bl c ∧ Pn G EO m1 H1 (k c th1) Φ := by
  have h2 : Pn G EO m H ((d σt th).bind fun t h1 => (match t with | .bl b => Res.ok b h1 | _ => Res.stuck).bind k) Φ := by
    unfold mB at h
    cases e : d σt th with
    | ok t th1 => rw [e] at h; exact h
    | exc c fs th1 => rw [e] at h; exact h
    | stuck => rw [e] at h; exact h
  refine h2.bind.imp fun t th1 m1 H1 x R1 h1 v vr => ?_
  cases vr with
  | bl b => exact ⟨b, rfl, h1⟩
  | _ => exact h1.elim
theorem de_and (ha : DE X EO a da) (hb : DE X EO (.BoolOp .And (b :: rest) pos) db) : DE X EO (.BoolOp .And (a :: b :: rest) pos) (eAnd da db) := by
  refine ⟨(pe_and ha.pe hb.pe).of fun σ H Q ⟨m, σt, th, sr, R, h⟩ => ⟨m, σt, th, sr, R, (mB_bl h).imp fun t th1 m1 H1 x R1 h1 v vr => ?_⟩⟩
  obtain ⟨c, e, h2⟩ := h1 v vr
  refine ⟨c, e, ?_⟩
  cases c with
  | true => exact iteT ⟨m1, σt, th1, sr.mono x.pre x.kp, R1, h2⟩
  | false => exact iteF (Pn.done h2 R1 _ (.bl false))
theorem de_or (ha : DE X EO a da) (hb : DE X EO (.BoolOp .Or (b :: rest) pos) db) : DE X EO (.BoolOp .Or (a :: b :: rest) pos) (eOr da db) := by
  refine ⟨(pe_or ha.pe hb.pe).of fun σ H Q ⟨m, σt, th, sr, R, h⟩ => ⟨m, σt, th, sr, R, (mB_bl h).imp fun t th1 m1 H1 x R1 h1 v vr => ?_⟩⟩
  obtain ⟨c, e, h2⟩ := h1 v vr
  refine ⟨c, e, ?_⟩
  cases c with
  | true => exact iteT (Pn.done h2 R1 _ (.bl true))
  | false => exact iteF ⟨m1, σt, th1, sr.mono x.pre x.kp, R1, h2⟩
theorem de_not (ha : DE X EO a da) : DE X EO (.UnaryOp .Not a pos) (eNot da) := by
  refine ⟨(pe_not ha.pe).of fun σ H Q ⟨m, σt, th, sr, R, h⟩ => ⟨m, σt, th, sr, R, (mB_bl h).imp fun t th1 m1 H1 x R1 h1 v vr => ?_⟩⟩
  obtain ⟨c, e, h2⟩ := h1 v vr
  exact ⟨c, e, Pn.done h2 R1 _ (.bl (!c))⟩
def eIf (t : MB) (a b : ME) : ME := fun σ h => (t σ h).bind fun c h1 => if c = true then a σ h1 else b σ h1
theorem de_if (hc : DT X EO c ta) (ha : DE X EO a da) (hb : DE X EO b db) : DE X EO (.IfExp c a b pos) (eIf ta da db) := by
  refine ⟨(pe_ifExp hc.pt ha.pe hb.pe).of fun σ H Q ⟨m, σt, th, sr, R, h⟩ => ⟨m, σt, th, sr, R, h.bind.imp fun c th1 m1 H1 x R1 h1 => ?_⟩⟩
  cases c with
  | true => exact iteT ⟨m1, σt, th1, sr.mono x.pre x.kp, R1, h1⟩
  | false => exact iteF ⟨m1, σt, th1, sr.mono x.pre x.kp, R1, h1⟩

/-! ### arguments, displays -/
def aNil : ML := fun _ h => .ok [] h
def aCons (a : ME) (r : ML) : ML := fun σ h => (a σ h).bind fun t h1 => (r σ h1).bind fun ts h2 => .ok (t :: ts) h2
variable {e : Expr} {es : List Expr} {de : ME} {dr : ML}
theorem da_nil : DA X EO [] aNil := ⟨pa_nil.of fun σ H Q ⟨m, σt, th, sr, R, h⟩ => h.done R [] .nil⟩
theorem da_cons (ha : DE X EO e de) (hr : DA X EO es dr) (hs : starEach (e :: es) X.env = (false, eval e X.env) :: starEach es X.env := by rfl) : DA X EO (e :: es) (aCons de dr) := by
  refine ⟨(pa_cons ha.pe hr.pa hs).of fun σ H Q ⟨m, σt, th, sr, R, h⟩ => ⟨m, σt, th, sr, R, h.bind.imp fun t th1 m1 H1 x R1 h1 v vr => ⟨m1, σt, th1, sr.mono x.pre x.kp, R1, h1.bind.imp fun ts th2 m2 H2 x2 R2 h2 vs vrs => ?_⟩⟩⟩
  exact Pn.done h2 R2 _ (.cons (vr.mono x2.pre x2.kp) vrs)
def eTup (as : ML) : ME := fun σ h => (as σ h).bind fun ts h1 => if ts.length ≤ sizeLine then .ok (.tup ts) h1 else .stuck
def eLst (as : ML) : ME := fun σ h => (as σ h).bind fun ts h1 => if ts.length ≤ sizeLine then .ok (.ref h1.length) (h1 ++ [.lst ts]) else .stuck
abbrev obT (its : List Value) : Obj := { cls := .type "tuple", data := .seq its.toArray }
/-- a new tuple, its object known -/
theorem tup_laid {pins : List (Addr × Obj)} {σ : L2.St} {H : Hp} {s : Shared} {h' : Heap} {t' : Nat} {xs : List V} {its : List Value} (I : Inv X pins σ H { s with heap := h' }) (z : xs.length ≤ sizeLine) (r : Vals xs its) :
    Inv X pins σ (upd H h'.objs.size (.frz (obT its) (.tup xs))) { s with heap := h'.push (obT its), toks := t' } ∧ H h'.objs.size = none := by
  have hf : H h'.objs.size = none := I.hok.fresh (Nat.le_refl _)
  refine ⟨I.laid (a := h'.objs.size) (t' := t') (fun b u e => Heap.get?_push_of_some _ e) (Nat.le_refl _) ⟨Heap.get?_push_size _ rfl, z, its, r, ⟨_, Heap.get?_push_size _ rfl, rfl, _, rfl⟩⟩, hf⟩
theorem tup_new {G : Gc} {m : List Addr} {H : Hp} {th : TH} {p : Addr} {o : Obj} {xs : List V} {ts : List T} {Φ : T → TH → List Addr → Hp → Prop} (R : Rel G m th H) (hp : H p = none) (hd : o.dict = none) (vr : VRs G.K m H ts xs)
    (h : Pn G EO m H (.ok (.tup ts) th) Φ) : Φ (.tup ts) th m (upd H p (.frz o (.tup xs))) ∧ VR G.K m (upd H p (.frz o (.tup xs))) (.tup ts) (.ref p) := by
  obtain ⟨R2, x⟩ := R.aside hp (.frz o (.tup xs))
  exact ⟨h m _ x R2, .tup (.inl ⟨o, upd_same, hd⟩) (vr.mono x.pre x.kp)⟩
theorem lst_new {G : Gc} {m : List Addr} {H : Hp} {th : TH} {p : Addr} {xs : List V} {ts : List T} {Φ : T → TH → List Addr → Hp → Prop} (R : Rel G m th H) (hp : H p = none) (vr : VRs G.K m H ts xs)
    (h : Pn G EO m H (.ok (.ref th.length) (th ++ [.lst ts])) Φ) : Φ (.ref th.length) (th ++ [.lst ts]) (m ++ [p]) (upd H p (.lst xs)) ∧ VR G.K (m ++ [p]) (upd H p (.lst xs)) (.ref th.length) (.ref p) := by
  have k := keep_new hp (.lst xs)
  obtain ⟨R2, x⟩ := R.push hp (.lst xs) (.lst ts) ⟨xs, upd_same, vr.mono (List.prefix_append _ _) k⟩
  exact ⟨h _ _ x R2, .ref (by rw [← R.len]; exact push_at)⟩
theorem de_tup {k : Nat} (h : DA X EO es dr) : DE X EO (.Tuple es k pos) (eTup dr) := by
  refine ⟨⟨fun pins s σ H Q I ⟨m, σt, th, sr, R, hq⟩ => ?_⟩⟩
  refine wpAny_Tuple_spliced (thn (h.pa.run pos pins s σ H (fun xs H1 => ∃ m1 th1 ts, Rel (gc X) m1 th1 H1 ∧ VRs X.K m1 H1 ts xs ∧ WT (gc X) EO m1 H1 (if ts.length ≤ sizeLine then .ok (.tup ts) th1 else .stuck) Q) I
    ⟨m, σt, th, sr, R, hq.bind.imp fun ts th1 m1 H1 x R1 h1 vs vrs => ⟨m1, th1, ts, R1, vrs, h1⟩⟩) fun us s1 ⟨xs, H1, I1, r, m1, th1, ts, R1, vrs, w⟩ => ?_)
  have hl := vrs.length
  have hr := r.length
  split at w
  · rename_i hz
    obtain ⟨I2, hp⟩ := tup_laid (X := X) (t' := s1.toks) (h' := s1.heap) (s := s1) I1 (by omega) r
    obtain ⟨w1, w2⟩ := tup_new (o := obT us) R1 hp rfl vrs w
    exact ⟨by omega, .ref s1.heap.objs.size, _, I2, rfl, w1 _ w2⟩
  · exact w.elim
theorem de_lst (h : DA X EO es dr) : DE X EO (.List es pos) (eLst dr) := by
  refine ⟨(pe_lst h.pa).of fun σ H Q ⟨m, σt, th, sr, R, h⟩ => ⟨m, σt, th, sr, R, h.bind.imp fun ts th1 m1 H1 x R1 h1 vs vrs => ?_⟩⟩
  have hl := vrs.length
  split at h1
  · rename_i hz
    refine ⟨by omega, fun p hp => ?_⟩
    obtain ⟨w1, w2⟩ := lst_new R1 hp vrs h1
    exact w1 _ w2
  · exact h1.elim

/-! ### calls of built-ins by values -/
abbrev Fn := List T → TH → Res T
def rTL (G : Gc) (EO : EOb) (g : Fn) : List V → Hp → VK → Prop := fun xs H Q => ∃ m th ts, Rel G m th H ∧ VRs G.K m H ts xs ∧ WT G EO m H (g ts th) Q
abbrev CallF (X : Cx) (EO : EOb) (F : Value) (g : Fn) : Prop := CallR X F (rTL (gc X) EO g)
def eCall (g : Fn) (as : ML) : ME := fun σ h => (as σ h).bind g
theorem tCB_of {G : Gc} {g : Fn} (σ : L2.St) (H : Hp) (Q : VK) (w : tD G EO (eCall g dr) σ H Q) : tCB (rTL G EO g) (tDA G EO dr) σ H Q := by
  obtain ⟨m, σt, th, sr, R, h⟩ := w
  exact ⟨m, σt, th, sr, R, h.bind.imp fun ts th1 m1 H1 x R1 h1 vs vrs => ⟨m1, th1, ts, R1, vrs, h1⟩⟩
variable {x : Str} {p : Pos} {id : String} {g : Fn}
theorem de_callB (hc : CallF X EO (.builtin id) g) (hm : X.mg x = none) (hv : bootBuiltins x = some (.builtin id)) (ha : DA X EO (e :: es) dr) (hg : Gl X x := by rfl) (hn : x ≠ "__name__" := by decide) (hdb : (x == ("__debug__" : Str)) = false := by decide)
    (he : starEach (e :: es) X.env = (false, eval e X.env) :: starEach es X.env := by rfl) (hpl : (backTo pos (starEach es X.env)).any (·.1) = false := by rfl) : DE X EO (.Call (.Name x p) (e :: es) [] pos) (eCall g dr) :=
  ⟨(pe_callB hc hg hm hv ha.pa hn hdb he hpl).of tCB_of⟩
theorem de_callTy (hc : CallF X EO (.type id) g) (hm : X.mg x = none) (hv : bootBuiltins x = some (.type id)) (ha : DA X EO (e :: es) dr) (hg : Gl X x := by rfl) (hn : x ≠ "__name__" := by decide) (hdb : (x == ("__debug__" : Str)) = false := by decide)
    (he : starEach (e :: es) X.env = (false, eval e X.env) :: starEach es X.env := by rfl) (hpl : (backTo pos (starEach es X.env)).any (·.1) = false := by rfl) : DE X EO (.Call (.Name x p) (e :: es) [] pos) (eCall g dr) :=
  ⟨(pe_callTy hc hg hm hv ha.pa hn hdb he hpl).of tCB_of⟩

/-! ### defs of one's own -/
def spT (G : Gc) (n : Nat) (F : Fn) : Sp := fun vs H Q _ => ∃ m ts th, VRs G.K m H ts vs ∧ ts.length = n ∧ Rel G m th H ∧ WT G EO0 m H (F ts th) Q
def GoodFn (P : Program) (w : World) (K : PySem.W.Frag) (mg : Str → Option Value) (base : Heap) (k : Nat) (x : Str) (ps : List Str) (F : Fn) : Prop :=
  ∃ f fd, mg x = some (.ref f) ∧ PySem.W.keepIn K (.ref f) = true ∧ Binds K fd ps [] ∧ FnOk P w K mg base CX0 k f fd ps (spT ⟨P, w, K, mg⟩ ps.length F)
theorem GoodFn.mono {P : Program} {w : World} {K : PySem.W.Frag} {mg : Str → Option Value} {base : Heap} {j k : Nat} {x : Str} {ps : List Str} {F : Fn} (h : GoodFn P w K mg base j x ps F) (l : j ≤ k) : GoodFn P w K mg base k x ps F :=
  let ⟨f, fd, h1, h2, h3, h4⟩ := h; ⟨f, fd, h1, h2, h3, h4.mono l⟩
variable {k : Nat} {ps : List Str}
/-- f(..): as many arguments as parameters -/
def eCallF (n : Nat) (F : Fn) (as : ML) : ME := fun σ h => (as σ h).bind fun ts h1 => if ts.length = n then F ts h1 else .stuck
theorem de_call {n : Nat} (F : GoodFn X.prog X.w X.K X.mg X.base k x ps g) (hr : Room k X.A) (ha : DA X EO0 (e :: es) dr) (hn : ps.length = n := by rfl) (hg : Gl X x := by rfl) (hdb : (x == ("__debug__" : Str)) = false := by decide) (he : starEach (e :: es) X.env = (false, eval e X.env) :: starEach es X.env := by rfl)
    (hpl : (backTo pos (starEach es X.env)).any (·.1) = false := by rfl) : DE X EO0 (.Call (.Name x p) (e :: es) [] pos) (eCallF n g dr) := by
  subst hn
  obtain ⟨f, fd, hm, hk, hb, F⟩ := F
  refine ⟨(pe_call (dvs := []) F hr hg hm hk hb .nil pass0 ha.pa hdb he hpl).of fun σ H Q ⟨m, σt, th, sr, R, h⟩ => ⟨m, σt, th, sr, R, h.bind.imp fun ts th1 m1 H1 x R1 h1 vs vrs => ?_⟩⟩
  show spT _ _ _ (vs ++ []) _ _ _
  rw [List.append_nil]
  split at h1
  · rename_i hl
    exact ⟨m1, ts, th1, vrs, hl, R1, h1⟩
  · exact h1.elim
theorem de_call0 (F : GoodFn X.prog X.w X.K X.mg X.base k x [] g) (hr : Room k X.A) (hg : Gl X x := by rfl) (hdb : (x == ("__debug__" : Str)) = false := by decide) : DE X EO0 (.Call (.Name x p) [] [] pos) (eCallF 0 g aNil) := by
  obtain ⟨f, fd, hm, hk, hb, F⟩ := F
  refine ⟨(pe_call0 (dvs := []) F hr hg hm hk hb .nil pass0 hdb).of fun σ H Q ⟨m, σt, th, sr, R, h⟩ => ?_⟩
  exact ⟨m, [], th, .nil, rfl, R, h⟩
end
end TL

/-! T-layer, part C: operators and built-in functions. -/
namespace TL
open PySem PySem.Spec PyProof.Rows L2

/-! ### what a value reads as -/
instance (d : PyData) : Decidable (d = .none) := match d with
  | .none => isTrue rfl
  | .bool _ => isFalse (fun z => nomatch z)
  | .int _ => isFalse (fun z => nomatch z)
  | .str _ => isFalse (fun z => nomatch z)
  | .list _ => isFalse (fun z => nomatch z)
  | .tuple _ => isFalse (fun z => nomatch z)
  | .dict _ => isFalse (fun z => nomatch z)

def dat : Nat → TH → T → Option PyData
  | 0, _, _ => none
  | n + 1, h, t => match t with
    | .non => some .none
    | .bl b => some (.bool b)
    | .int i => some (.int i)
    | .str x => some (.str x)
    | .tup ts => (ts.mapM (dat n h)).map .tuple
    | .ref k => match h[k]? with
      | some (.lst ts) => (ts.mapM (dat n h)).map .list
      | _ => none
    | .scr ns => some (.list (ns.map .int))
theorem dp_ints {K : PySem.W.Frag} {H : Hp} : ∀ ns : List Int, DpAll K H (ns.map V.int) (ns.map PyData.int)
  | [] => .nil
  | n :: ns => .cons (.int n) (dp_ints ns)
theorem mapM_some {α β : Type} {f : α → Option β} : ∀ {l : List α} {r : List β}, l.mapM f = some r → l.length = r.length ∧ ∀ (i : Nat) (a : α), l[i]? = some a → ∃ b, r[i]? = some b ∧ f a = some b
  | [], r, h => by
    have : r = [] := by simpa using h.symm
    subst this; simp
  | a :: l, r, h => by
    rw [List.mapM_cons] at h
    cases e : f a with
    | none => rw [e] at h; simp at h
    | some b =>
      rw [e] at h
      cases e2 : l.mapM f with
      | none => rw [e2] at h; simp at h
      | some bs =>
        rw [e2] at h
        have hr : r = b :: bs := by simpa using h.symm
        subst hr
        obtain ⟨h1, h2⟩ := mapM_some e2
        refine ⟨by simp [h1], fun i x hx => ?_⟩
        cases i with
        | zero => exact ⟨b, rfl, by simp at hx; subst hx; exact e⟩
        | succ i => exact h2 i x (by simpa using hx)
section
variable {G : Gc} {m : List Addr} {th : TH} {H : Hp}
theorem dp_all {n : Nat} (ih : ∀ (t : T) (v : V) (d : PyData), VR G.K m H t v → dat n th t = some d → Dp G.K H v d) : ∀ {ts : List T} {vs : List V} {ds : List PyData}, VRs G.K m H ts vs → ts.mapM (dat n th) = some ds → DpAll G.K H vs ds
  | _, _, ds, .nil, e => by
    have : ds = [] := by simpa using e.symm
    subst this; exact .nil
  | t :: ts, _, ds, .cons a b, e => by
    rw [List.mapM_cons] at e
    cases e1 : dat n th t with
    | none => rw [e1] at e; simp at e
    | some d =>
      rw [e1] at e
      cases e2 : ts.mapM (dat n th) with
      | none => rw [e2] at e; simp at e
      | some bs =>
        rw [e2] at e
        have hr : ds = d :: bs := by simpa using e.symm
        subst hr
        exact .cons (ih _ _ _ a e1) (dp_all ih b e2)
theorem dat_dp (R : Rel G m th H) : ∀ (n : Nat) (t : T) (v : V) (d : PyData), VR G.K m H t v → dat n th t = some d → Dp G.K H v d
  | 0, _, _, _, _, e => by simp [dat] at e
  | n + 1, t, v, d, r, e => by
    cases r with
    | non => simp [dat] at e; subst e; exact .non
    | bl b => simp [dat] at e; subst e; exact .bl b
    | int i => simp [dat] at e; subst e; exact .int i
    | str x => simp [dat] at e; subst e; exact .str x
    | @tup ts a xs h1 h2 =>
      simp only [dat] at e
      obtain ⟨ds, e1, e2⟩ := Option.map_eq_some_iff.mp e
      subst e2
      exact .tup h1.t (dp_all (dat_dp R n) h2 e1)
    | @ref k a h1 =>
      simp only [dat] at e
      split at e
      · rename_i ts hk
        obtain ⟨ds, e1, e2⟩ := Option.map_eq_some_iff.mp e
        subst e2
        obtain ⟨xs, h2, h3⟩ := R.at_ k a _ h1 hk
        exact .lst (.of h2) (dp_all (dat_dp R n) h3 e1)
      · cases e
    | @scr ns a h1 =>
      simp [dat] at e; subst e
      exact .lst h1.l (dp_ints ns)
end
theorem reads_dat {X : Cx} {m : List Addr} {th : TH} {H : Hp} {pins : List (Addr × Obj)} {σ : L2.St} {s : Shared} {t : T} {v : V} {u : Value} {d : PyData} {n : Nat} (I : Inv X pins σ H s) (R : Rel (gc X) m th H) (r : VR X.K m H t v) (ru : RelV v u) (e : dat n th t = some d) :
    ∃ as, Reads s.heap u d as := Dp.reads I d v u (dat_dp (G := gc X) R n t v d r e) ru

section
variable {X : Cx} {EO : EOb}
/-- what is handed back as a bool, an int .. -/
theorem fin_t {pins : List (Addr × Obj)} {σ : L2.St} {H : Hp} {s : Shared} {Q : VK} {m : List Addr} {th : TH} {t : T} {v : V} {u : Value} (I : Inv X pins σ H s) (R : Rel (gc X) m th H) (w : WT (gc X) EO m H (.ok t th) Q) (r : VR X.K m H t v) (ru : RelV v u) : EP X pins σ Q u s :=
  ⟨v, H, I, ru, Pn.done w R v r⟩

/-! ### arithmetic -/
def fAdd : Op2 := fun x y h => match x, y with
  | .int i, .int j => .ok (.int (i + j)) h
  | .str a, .str b => if a.length + b.length ≤ sizeLine then .ok (.str (a ++ b)) h else .stuck
  | .tup a, .tup b => if a.length + b.length ≤ sizeLine then .ok (.tup (a ++ b)) h else .stuck
  | .ref p, .ref q => match h[p]?, h[q]? with
    | some (.lst a), some (.lst b) => if a.length + b.length ≤ sizeLine then .ok (.ref h.length) (h ++ [.lst (a ++ b)]) else .stuck
    | _, _ => .stuck
  | _, _ => .stuck
theorem of_add : OpF X EO (binaryOp .Add) fAdd := by
  intro pins s σ H x y v u Q I rx ry ⟨m, th, a, b, R, ra, rb, w⟩
  unfold fAdd at w
  split at w
  · cases ra; cases rb
    exact op_add pins s σ H _ _ v u Q I rx ry ⟨_, _, rfl, rfl, Pn.done w R _ (.int _)⟩
  · cases ra; cases rb
    split at w
    · rename_i hz
      exact op_add_str pins s σ H _ _ v u Q I rx ry ⟨_, _, rfl, rfl, hz, Pn.done w R _ (.str _)⟩
    · exact w.elim
  · rename_i ts us
    cases ra with
    | @tup _ p xs h1 h2 =>
    cases rb with
    | @tup _ q ys h3 h4 =>
    split at w
    · rename_i hz
      have l1 := h2.length
      have l2 := h4.length
      by_cases hx : xs = []
      · subst hx
        have et : ts = [] := List.eq_nil_of_length_eq_zero (by simpa using l1)
        subst et
        refine op_catA pins s σ H _ _ v u Q I rx ry ⟨p, q, [], ys, rfl, rfl, h1.t, h3.t, by simp; omega, fun _ => Pn.done w R _ (.tup h3 h4), fun z => absurd rfl z, fun z => absurd rfl z⟩
      · by_cases hy : ys = []
        · subst hy
          have et : us = [] := List.eq_nil_of_length_eq_zero (by simpa using l2)
          subst et
          refine op_catA pins s σ H _ _ v u Q I rx ry ⟨p, q, xs, [], rfl, rfl, h1.t, h3.t, by simp; omega, fun z => absurd z hx, fun _ _ => Pn.done w R _ (.tup h1 (by rw [List.append_nil]; exact h2)), fun _ z => absurd rfl z⟩
        · cases rx
          cases ry
          obtain ⟨its, r1, p1, _⟩ := I.tuple h1.t
          obtain ⟨its2, r2, p2, _⟩ := I.tuple h3.t
          refine HT.cat_tup p1 p2 (fun z => hx (r1.nil_iff.mp z)) (fun z => absurd (r2.nil_iff.mp z) hy) (fun z => ?_) (by rw [← r1.length, ← r2.length]; omega)
          obtain ⟨I2, hp⟩ := tup_laid (X := X) (t' := s.toks) (h' := s.heap) (s := s) (xs := xs ++ ys) I (by simp; omega) (r1.append r2)
          obtain ⟨w1, w2⟩ := tup_new (o := obT (its ++ its2)) R hp rfl (h2.append h4) w
          exact ⟨.ref s.heap.objs.size, _, I2, rfl, w1 _ w2⟩
    · exact w.elim
  · rename_i i j
    split at w
    · rename_i as bs e1 e2
      cases ra with
      | @ref _ p h1 =>
      cases rb with
      | @ref _ q h2 =>
      obtain ⟨xs, hx, rx'⟩ := R.at_ _ _ _ h1 e1
      obtain ⟨ys, hy, ry'⟩ := R.at_ _ _ _ h2 e2
      have l1 := rx'.length
      have l2 := ry'.length
      split at w
      · rename_i hz
        refine op_cat pins s σ H _ _ v u Q I rx ry ⟨p, q, xs, ys, rfl, rfl, hx, hy, by omega, fun a ha => ?_⟩
        obtain ⟨w1, w2⟩ := lst_new R ha (rx'.append ry') w
        exact w1 _ w2
      · exact w.elim
    · exact w.elim
  · exact w.elim
def fSub : Op2 := fun x y h => match x, y with
  | .int i, .int j => .ok (.int (i - j)) h
  | _, _ => .stuck
def fMul : Op2 := fun x y h => match x, y with
  | .int i, .int j => if (-(2 ^ 64) < i ∧ i < 2 ^ 64) ∨ (-(2 ^ 64) < j ∧ j < 2 ^ 64) then .ok (.int (i * j)) h else .stuck
  | _, _ => .stuck
def fDiv : Op2 := fun x y h => match x, y with
  | .int i, .int j => if 0 < j ∧ j < 1073741824 then .ok (.int (i / j)) h else .stuck
  | _, _ => .stuck
def fMod : Op2 := fun x y h => match x, y with
  | .int i, .int j => if 0 < j then .ok (.int (i % j)) h else .stuck
  | _, _ => .stuck
def fPow : Op2 := fun x y h => match x, y with
  | .int i, .int j => if 0 ≤ j ∧ j ≤ 1000000 ∧ i.natAbs < 2 ^ 64 then .ok (.int (i ^ j.toNat)) h else .stuck
  | _, _ => .stuck
theorem of_int {F : Value → Value → Sem Value} {f : Op2} {C : Int → Int → Prop} {g : Int → Int → Int} (ho : OpR X F (rI C fun i j => .int (g i j)))
    (hf : ∀ a b h r, f a b h = r → r = .stuck ∨ ∃ i j, a = .int i ∧ b = .int j ∧ C i j ∧ r = .ok (.int (g i j)) h) : OpF X EO F f := by
  intro pins s σ H x y v u Q I rx ry ⟨m, th, a, b, R, ra, rb, w⟩
  rcases hf a b th _ rfl with e | ⟨i, j, rfl, rfl, hc, e⟩
  · rw [e] at w; exact w.elim
  · rw [e] at w
    cases ra; cases rb
    exact ho pins s σ H _ _ v u Q I rx ry ⟨i, j, rfl, rfl, hc, Pn.done w R _ (.int _)⟩
theorem OpR.noC {F : Value → Value → Sem Value} {g : Int → Int → V} (ho : OpR X F (rI0 g)) : OpR X F (rI (fun _ _ => True) g) := fun pins s σ H x y v u Q I rx ry ⟨i, j, h1, h2, _, q⟩ => ho pins s σ H x y v u Q I rx ry ⟨i, j, h1, h2, q⟩
theorem of_sub : OpF X EO (binaryOp .Sub) fSub := of_int (OpR.noC op_sub) fun a b h r e => by
  subst e; unfold fSub; split
  · exact .inr ⟨_, _, rfl, rfl, trivial, rfl⟩
  · exact .inl rfl
theorem of_mul : OpF X EO (binaryOp .Mult) fMul := of_int op_mul fun a b h r e => by
  subst e; unfold fMul; split
  · split
    · rename_i hc; exact .inr ⟨_, _, rfl, rfl, hc, rfl⟩
    · exact .inl rfl
  · exact .inl rfl
theorem of_div : OpF X EO (binaryOp .FloorDiv) fDiv := of_int op_fdiv fun a b h r e => by
  subst e; unfold fDiv; split
  · split
    · rename_i hc; exact .inr ⟨_, _, rfl, rfl, hc, rfl⟩
    · exact .inl rfl
  · exact .inl rfl
theorem of_mod : OpF X EO (binaryOp .Mod) fMod := of_int op_mod fun a b h r e => by
  subst e; unfold fMod; split
  · split
    · rename_i hc; exact .inr ⟨_, _, rfl, rfl, hc, rfl⟩
    · exact .inl rfl
  · exact .inl rfl
theorem of_pow : OpF X EO (binaryOp .Pow) fPow := of_int op_pow fun a b h r e => by
  subst e; unfold fPow; split
  · split
    · rename_i hc; exact .inr ⟨_, _, rfl, rfl, hc, rfl⟩
    · exact .inl rfl
  · exact .inl rfl

/-! ### comparisons -/
def fEqB (x y : T) (h : TH) : Res Bool := match x, y with
  | .int i, .int j => .ok (decide (i = j)) h
  | .str a, .str b => .ok (decide (a = b)) h
  | _, _ => match dat 66 h x, dat 66 h y with
    | some d, some e => if SeqAt.shaped d = true ∧ SeqAt.shaped e = true then .ok (PyData.eqv d e) h else .stuck
    | _, _ => .stuck
def fEq : Op2 := fun x y h => (fEqB x y h).bind fun b h => .ok (.bl b) h
def fNe : Op2 := fun x y h => (fEqB x y h).bind fun b h => .ok (.bl (!b)) h
theorem of_eq (hu : X.A.units + 64 < cLine) : OpF X EO (compareOp .Eq) fEq := by
  intro pins s σ H x y v u Q I rx ry ⟨m, th, a, b, R, ra, rb, w⟩
  unfold fEq fEqB at w
  split at w
  · cases ra; cases rb
    exact op_eq pins s σ H _ _ v u Q I rx ry ⟨rfl, by
      have q := Pn.done w R _ (.bl _)
      have e : decide (V.int ‹Int› = V.int ‹Int›) = _ := dec_int
      simpa [dec_int, Bool.beq_eq_decide_eq] using q⟩
  · cases ra; cases rb
    exact op_eq pins s σ H _ _ v u Q I rx ry ⟨rfl, by
      have q := Pn.done w R _ (.bl _)
      simpa [dec_str, Bool.beq_eq_decide_eq] using q⟩
  · split at w
    · rename_i d e hd he
      split at w
      · rename_i hs
        exact op_eqD hu pins s σ H _ _ v u Q I rx ry ⟨d, e, dat_dp (G := gc X) R _ _ _ _ ra hd, dat_dp (G := gc X) R _ _ _ _ rb he, hs.1, hs.2, Pn.done w R _ (.bl _)⟩
      · exact w.elim
    · exact w.elim
theorem of_ne (hu : X.A.units + 64 < cLine) : OpF X EO (compareOp .NotEq) fNe := by
  intro pins s σ H x y v u Q I rx ry ⟨m, th, a, b, R, ra, rb, w⟩
  unfold fNe fEqB at w
  split at w
  · cases ra; cases rb
    exact op_ne pins s σ H _ _ v u Q I rx ry ⟨rfl, by
      have q := Pn.done w R _ (.bl _)
      simpa [dec_int, Bool.beq_eq_decide_eq] using q⟩
  · cases ra; cases rb
    exact op_ne pins s σ H _ _ v u Q I rx ry ⟨rfl, by
      have q := Pn.done w R _ (.bl _)
      simpa [dec_str, Bool.beq_eq_decide_eq] using q⟩
  · split at w
    · rename_i d e hd he
      split at w
      · rename_i hs
        exact op_neD hu pins s σ H _ _ v u Q I rx ry ⟨d, e, dat_dp (G := gc X) R _ _ _ _ ra hd, dat_dp (G := gc X) R _ _ _ _ rb he, hs.1, hs.2, Pn.done w R _ (.bl _)⟩
      · exact w.elim
    · exact w.elim
def fLtB (x y : T) (h : TH) : Res Bool := match x, y with
  | .int i, .int j => .ok (decide (i < j)) h
  | .str a, .str b => .ok (decide (a.cps.toList < b.cps.toList)) h
  | _, _ => match dat 66 h x, dat 66 h y with
    | some d, some e => if PySem.W.alike d e = true ∧ d ≠ .none ∧ d.depth ≤ 63 then .ok (PySem.W.dataLt d e) h else .stuck
    | _, _ => .stuck
def fLt : Op2 := fun x y h => (fLtB x y h).bind fun b h => .ok (.bl b) h
theorem of_lt (hu : X.A.units + 64 < cLine) : OpF X EO (compareOp .Lt) fLt := by
  intro pins s σ H x y v u Q I rx ry ⟨m, th, a, b, R, ra, rb, w⟩
  unfold fLt fLtB at w
  split at w
  · cases ra; cases rb
    exact op_lt pins s σ H _ _ v u Q I rx ry ⟨_, _, rfl, rfl, Pn.done w R _ (.bl _)⟩
  · cases ra; cases rb
    exact op_lt_str pins s σ H _ _ v u Q I rx ry ⟨_, _, rfl, rfl, Pn.done w R _ (.bl _)⟩
  · split at w
    · rename_i d e hd he
      split at w
      · rename_i hs
        obtain ⟨as, r1⟩ := reads_dat I R ra rx hd
        obtain ⟨bs, r2⟩ := reads_dat I R rb ry he
        exact PySem.W.rcLt_alike d e X.A s v u as bs r1 r2 hs.1 hs.2.1 (by have := hs.2.2; omega) _ _ _ _ (fin_t I R w (.bl _) rfl)
      · exact w.elim
    · exact w.elim
def fLe : Op2 := fun x y h => match x, y with
  | .int i, .int j => .ok (.bl (decide (i ≤ j))) h
  | .str a, .str b => .ok (.bl (!decide (b.cps.toList < a.cps.toList))) h
  | _, _ => .stuck
def fGt : Op2 := fun x y h => match x, y with
  | .int i, .int j => .ok (.bl (decide (j < i))) h
  | .str a, .str b => .ok (.bl (decide (b.cps.toList < a.cps.toList))) h
  | _, _ => .stuck
def fGe : Op2 := fun x y h => match x, y with
  | .int i, .int j => .ok (.bl (decide (j ≤ i))) h
  | .str a, .str b => .ok (.bl (!decide (a.cps.toList < b.cps.toList))) h
  | _, _ => .stuck
theorem of_le : OpF X EO (compareOp .LtE) fLe := by
  intro pins s σ H x y v u Q I rx ry ⟨m, th, a, b, R, ra, rb, w⟩
  unfold fLe at w
  split at w
  · cases ra; cases rb
    exact op_le pins s σ H _ _ v u Q I rx ry ⟨_, _, rfl, rfl, Pn.done w R _ (.bl _)⟩
  · cases ra; cases rb
    exact op_le_str pins s σ H _ _ v u Q I rx ry ⟨_, _, rfl, rfl, Pn.done w R _ (.bl _)⟩
  · exact w.elim
theorem of_gt : OpF X EO (compareOp .Gt) fGt := by
  intro pins s σ H x y v u Q I rx ry ⟨m, th, a, b, R, ra, rb, w⟩
  unfold fGt at w
  split at w
  · cases ra; cases rb
    exact op_gt pins s σ H _ _ v u Q I rx ry ⟨_, _, rfl, rfl, Pn.done w R _ (.bl _)⟩
  · cases ra; cases rb
    exact op_gt_str pins s σ H _ _ v u Q I rx ry ⟨_, _, rfl, rfl, Pn.done w R _ (.bl _)⟩
  · exact w.elim
theorem of_ge : OpF X EO (compareOp .GtE) fGe := by
  intro pins s σ H x y v u Q I rx ry ⟨m, th, a, b, R, ra, rb, w⟩
  unfold fGe at w
  split at w
  · cases ra; cases rb
    exact op_ge pins s σ H _ _ v u Q I rx ry ⟨_, _, rfl, rfl, Pn.done w R _ (.bl _)⟩
  · cases ra; cases rb
    exact op_ge_str pins s σ H _ _ v u Q I rx ry ⟨_, _, rfl, rfl, Pn.done w R _ (.bl _)⟩
  · exact w.elim

/-! ### is None, is True, is False -/
def isN : T → Bool
  | .non => true
  | _ => false
def isBl (b : Bool) : T → Bool
  | .bl a => decide (a = b)
  | _ => false
def fIsB (x y : T) : Option Bool := match y with
  | .non => some (isN x)
  | .bl b => some (isBl b x)
  | _ => none
def fIs : Op2 := fun x y h => match fIsB x y with
  | some b => .ok (.bl b) h
  | none => .stuck
def fIsNot : Op2 := fun x y h => match fIsB x y with
  | some b => .ok (.bl (!b)) h
  | none => .stuck
theorem isN_of {K : PySem.W.Frag} {m : List Addr} {H : Hp} {t : T} {v : V} (r : VR K m H t v) : decide (v = .non) = isN t := by cases r <;> simp [isN]
theorem isBl_of {K : PySem.W.Frag} {m : List Addr} {H : Hp} {t : T} {v : V} {u : Value} {b : Bool} (r : VR K m H t v) (ru : RelV v u) : (u == Value.bool b) = isBl b t ∧ plainIs u (.bool b) = true := by
  cases r with
  | non => cases ru; exact ⟨rfl, rfl⟩
  | bl a => cases ru; cases a <;> cases b <;> exact ⟨rfl, rfl⟩
  | int i => obtain ⟨t, rfl⟩ := ru; exact ⟨rfl, rfl⟩
  | str x => obtain ⟨t, rfl⟩ := ru; exact ⟨rfl, rfl⟩
  | tup _ _ => cases ru; exact ⟨rfl, rfl⟩
  | ref _ => cases ru; exact ⟨rfl, rfl⟩
  | scr _ => cases ru; exact ⟨rfl, rfl⟩
theorem of_is : OpF X EO (compareOp .Is) fIs := by
  intro pins s σ H x y v u Q I rx ry ⟨m, th, a, b, R, ra, rb, w⟩
  unfold fIs fIsB at w
  cases rb with
  | non =>
    refine op_isN pins s σ H _ _ v u Q I rx ry ⟨rfl, ?_⟩
    rw [isN_of ra]
    exact Pn.done w R _ (.bl _)
  | bl b =>
    cases ry
    obtain ⟨e, p⟩ := isBl_of (b := b) ra rx
    refine wpAny_is_plain p ?_
    rw [e]
    exact fin_t I R w (.bl _) rfl
  | _ => exact w.elim
theorem of_isNot : OpF X EO (compareOp .IsNot) fIsNot := by
  intro pins s σ H x y v u Q I rx ry ⟨m, th, a, b, R, ra, rb, w⟩
  unfold fIsNot fIsB at w
  cases rb with
  | non =>
    refine op_notN pins s σ H _ _ v u Q I rx ry ⟨rfl, ?_⟩
    rw [isN_of ra]
    exact Pn.done w R _ (.bl _)
  | bl b =>
    cases ry
    obtain ⟨e, p⟩ := isBl_of (b := b) ra rx
    refine wpAny_isNot_plain p ?_
    rw [e]
    exact fin_t I R w (.bl _) rfl
  | _ => exact w.elim
/-! ### in -/
/-- the items of a list or a tuple -/
def itemsOf (h : TH) : T → Option (List T)
  | .tup ts => some ts
  | .ref k => match h[k]? with
    | some (.lst ts) => some ts
    | _ => none
  | .scr ns => some (ns.map .int)
  | _ => none
def fInB (x y : T) (h : TH) : Res Bool := match y with
  | .str b => match x with
    | .str a => .ok (!(Builtin.Str.occurrences b a 0 b.length 1).isEmpty) h
    | _ => .stuck
  | _ => match itemsOf h y with
    | some ts => match dat 66 h x, ts.mapM (dat 66 h) with
      | some d, some ds => if d.canLay0 = true ∧ d.depth ≤ 62 ∧ PyData.canLayAll0 ds = true then .ok (ds.any fun z => PyData.eqv z d) h else .stuck
      | _, _ => .stuck
    | none => .stuck
theorem Vals.reads {G : Gc} {m : List Addr} {th : TH} {H : Hp} (R : Rel G m th H) {ts : List T} {vs : List V} {ds : List PyData} (r : VRs G.K m H ts vs) (e : ts.mapM (dat 66 th) = some ds) : DpAll G.K H vs ds :=
  dp_all (G := G) (fun t v d a b => dat_dp R 66 t v d a b) r e
theorem seq_reads {pins : List (Addr × Obj)} {σ : L2.St} {H : Hp} {s : Shared} {m : List Addr} {th : TH} {y : T} {v : V} {u : Value} {ts : List T} {ds : List PyData} (I : Inv X pins σ H s) (R : Rel (gc X) m th H) (r : VR X.K m H y v) (ru : RelV v u) (e : itemsOf th y = some ts)
    (e2 : ts.mapM (dat 66 th) = some ds) : ∃ as, Reads s.heap u (.list ds) as ∨ Reads s.heap u (.tuple ds) as := by
  cases r with
  | @tup us a xs h1 h2 =>
    have e : us = ts := by simpa [itemsOf] using e
    subst e
    obtain ⟨as, r⟩ := Dp.reads I (.tuple ds) _ u (.tup h1.t (Vals.reads (G := gc X) R h2 e2)) ru
    exact ⟨as, .inr r⟩
  | @ref k a h1 =>
    simp only [itemsOf] at e
    split at e
    · rename_i us hk
      cases e
      obtain ⟨xs, h2, h3⟩ := R.at_ k a _ h1 hk
      obtain ⟨as, r⟩ := Dp.reads I (.list ds) _ u (.lst (.of h2) (Vals.reads (G := gc X) R h3 e2)) ru
      exact ⟨as, .inl r⟩
    · cases e
  | @scr ns a h1 =>
    have e : ns.map T.int = ts := by simpa [itemsOf] using e
    subst e
    obtain ⟨as, r⟩ := Dp.reads I (.list ds) _ u (.lst h1.l (Vals.reads (G := gc X) R (VRs.ints ns) e2)) ru
    exact ⟨as, .inl r⟩
  | _ => simp [itemsOf] at e
def fIn : Op2 := fun x y h => (fInB x y h).bind fun b h => .ok (.bl b) h
def fNotIn : Op2 := fun x y h => (fInB x y h).bind fun b h => .ok (.bl (!b)) h
theorem of_in (hu : X.A.units + 64 < cLine) : OpF X EO (compareOp .In) fIn := by
  intro pins s σ H x y v u Q I rx ry ⟨m, th, a, b, R, ra, rb, w⟩
  unfold fIn fInB at w
  split at w
  · cases rb
    split at w
    · cases ra
      exact op_in_str pins s σ H _ _ v u Q I rx ry ⟨_, _, rfl, rfl, Pn.done w R _ (.bl _)⟩
    · exact w.elim
  · split at w
    · rename_i ts e1
      split at w
      · rename_i d ds hd hds
        split at w
        · rename_i hs
          obtain ⟨bs, r2⟩ := reads_dat I R ra rx hd
          obtain ⟨as, r1⟩ := seq_reads I R rb ry e1 hds
          have hm : X.A.units + 1 + min (PyData.depthAll ds) d.depth < cLine := by have := hs.2.1; omega
          rcases r1 with r1 | r1
          · exact SeqAt.in_list_reads r1 r2 hs.2.2 hs.1 hm (fin_t I R w (.bl _) rfl)
          · exact SeqAt.in_tuple_reads r1 r2 hs.2.2 hs.1 hm (fin_t I R w (.bl _) rfl)
        · exact w.elim
      · exact w.elim
    · exact w.elim
theorem of_notIn (hu : X.A.units + 64 < cLine) : OpF X EO (compareOp .NotIn) fNotIn := by
  intro pins s σ H x y v u Q I rx ry ⟨m, th, a, b, R, ra, rb, w⟩
  unfold fNotIn fInB at w
  split at w
  · cases rb
    split at w
    · cases ra
      exact op_notin_str pins s σ H _ _ v u Q I rx ry ⟨_, _, rfl, rfl, Pn.done w R _ (.bl _)⟩
    · exact w.elim
  · split at w
    · rename_i ts e1
      split at w
      · rename_i d ds hd hds
        split at w
        · rename_i hs
          obtain ⟨bs, r2⟩ := reads_dat I R ra rx hd
          obtain ⟨as, r1⟩ := seq_reads I R rb ry e1 hds
          have hm : X.A.units + 1 + min (PyData.depthAll ds) d.depth < cLine := by have := hs.2.1; omega
          rcases r1 with r1 | r1
          · exact SeqAt.notIn_list_reads r1 r2 hs.2.2 hs.1 hm (fin_t I R w (.bl _) rfl)
          · exact SeqAt.notIn_tuple_reads r1 r2 hs.2.2 hs.1 hm (fin_t I R w (.bl _) rfl)
        · exact w.elim
      · exact w.elim
    · exact w.elim

/-! ### subscripts -/
def fIx : Op2 := fun x y h => match y with
  | .int i => match x with
    | .str z => if z.length ≤ sizeLine then (match atI z.cps.toList i with
      | some c => .ok (.str ⟨#[c]⟩) h
      | none => .stuck) else .stuck
    | _ => match itemsOf h x with
      | some ts => match atI ts i with
        | some t => .ok t h
        | none => .stuck
      | none => .stuck
  | _ => .stuck
/-- what is to be read of a list, a tuple -/
theorem items_sq {G : Gc} {H : Hp} {m : List Addr} {th : TH} {y : T} {v : V} {ts : List T} (R : Rel G m th H) (r : VR G.K m H y v) (e : itemsOf th y = some ts) :
    ∃ a xs, v = .ref a ∧ (SqL G.K H a xs ∨ SqT G.K H a xs) ∧ VRs G.K m H ts xs := by
  cases r with
  | @tup us a xs h1 h2 =>
    have e : us = ts := by simpa [itemsOf] using e
    subst e
    exact ⟨a, xs, rfl, .inr h1.t, h2⟩
  | @ref k a h1 =>
    simp only [itemsOf] at e
    split at e
    · rename_i us hk
      cases e
      obtain ⟨xs, h2, h3⟩ := R.at_ k a _ h1 hk
      exact ⟨a, xs, rfl, .inl (.of h2), h3⟩
    · cases e
  | @scr ns a h1 =>
    have e : ns.map T.int = ts := by simpa [itemsOf] using e
    subst e
    exact ⟨a, _, rfl, .inl h1.l, VRs.ints ns⟩
  | _ => simp [itemsOf] at e
theorem atI_vr {K : PySem.W.Frag} {m : List Addr} {H : Hp} {ts : List T} {xs : List V} {i : Int} {t : T} (r : VRs K m H ts xs) (e : atI ts i = some t) : ∃ v, atI xs i = some v ∧ VR K m H t v := by
  unfold atI at e ⊢
  rw [← r.length]
  cases q : ixN ts.length i with
  | none => rw [q] at e; cases e
  | some j =>
    rw [q] at e
    exact r.get e
theorem ix_T : IxR X (rT (gc X) EO fIx) := by
  intro value slice pins s σ H x y v u Q I rx ry ⟨m, th, a, b, R, ra, rb, w⟩ hs
  unfold fIx at w
  split at w
  · rename_i i
    cases rb
    split at w
    · rename_i z
      cases ra
      split at w
      · rename_i hz
        split at w
        · rename_i c hc
          exact ix_str value slice pins s σ H _ _ v u Q I rx ry ⟨_, _, c, rfl, rfl, hz, hc, Pn.done w R _ (.str _)⟩ hs
        · exact w.elim
      · exact w.elim
    · split at w
      · rename_i ts e1
        split at w
        · rename_i t e2
          obtain ⟨p, xs, rfl, hq, rs⟩ := items_sq (G := gc X) R ra e1
          obtain ⟨z, e3, rz⟩ := atI_vr rs e2
          rcases hq with hq | hq
          · exact ix_list value slice pins s σ H _ _ v u Q I rx ry ⟨p, xs, _, z, rfl, rfl, hq, e3, Pn.done w R _ rz⟩ hs
          · exact ix_tup value slice pins s σ H _ _ v u Q I rx ry ⟨p, xs, _, z, rfl, rfl, hq, e3, Pn.done w R _ rz⟩ hs
        · exact w.elim
      · exact w.elim
  · exact w.elim
variable {a b : Expr} {da db : ME} {pos : Pos}
/-- a[b] of a list, a tuple, a text -/
theorem de_ix (ha : DE X EO a da) (hb : DE X EO b db) (hs : PlainIx b := by intro _ _; rfl) : DE X EO (.Subscript a b pos) (eBin fIx da db) := ⟨(pe_ix ix_T ha.pe hb.pe hs).of tOp_of⟩
end
end TL

/-! T-layer, part D: slices, len, isinstance, conversions, sums, sorted. -/
namespace TL
open PySem PySem.Spec PyProof.Rows L2
section
variable {X : Cx} {EO : EOb}

/-! ### slices -/
abbrev MO := Sl → TH → Res (Option Int)
def tDO (G : Gc) (EO : EOb) (d : MO) : L2.TO := fun σ H Q => ∃ m σt th, SR G.K m H σt σ ∧ Rel G m th H ∧ Pn G EO m H (d σt th) fun o _ _ H' => Q o H'
structure DO (X : Cx) (EO : EOb) (e : Option Expr) (d : MO) : Prop where
  po : PO X e (tDO (gc X) EO d)
theorem _root_.L2.PO.of {X : Cx} {e : Option Expr} {t t' : L2.TO} (h : PO X e t) (f : ∀ σ H Q, t' σ H Q → t σ H Q) : PO X e t' := ⟨fun pins s σ H Q I w => h.run pins s σ H Q I (f σ H Q w)⟩
def oNone : MO := fun _ h => .ok none h
def oSome (d : ME) : MO := fun σ h => (d σ h).bind fun t h1 => match t with
  | .int i => .ok (some i) h1
  | _ => .stuck
theorem do_none : DO X EO none oNone := ⟨po_none.of fun σ H Q ⟨m, σt, th, sr, R, h⟩ => Pn.done h R⟩
theorem do_some {e : Expr} {d : ME} (h : DE X EO e d) : DO X EO (some e) (oSome d) := by
  refine ⟨(po_some h.pe).of fun σ H Q ⟨m, σt, th, sr, R, h⟩ => ⟨m, σt, th, sr, R, h.bind.imp fun t th1 m1 H1 x R1 h1 v vr => ?_⟩⟩
  cases vr with
  | int i => exact ⟨i, rfl, Pn.done h1 R1⟩
  | _ => exact h1.elim
def cutL {α : Type} (xs : List α) (lo hi : Option Int) : List α := (xs.drop (HT.sIx xs.length 0 lo)).take (HT.sIx xs.length xs.length hi - HT.sIx xs.length 0 lo)
theorem cutL_vr {K : PySem.W.Frag} {m : List Addr} {H : Hp} {ts : List T} {xs : List V} (r : VRs K m H ts xs) (lo hi : Option Int) : VRs K m H (cutL ts lo hi) (cutV xs lo hi) := by
  unfold cutL cutV
  rw [r.length]
  exact (r.drop _).take _
def fSlice : T → Option Int → Option Int → TH → Res T := fun x lo hi h => match x with
  | .str z => if z.length ≤ sizeLine then .ok (.str (cutS z lo hi)) h else .stuck
  | .tup ts => .ok (.tup (cutL ts lo hi)) h
  | _ => match itemsOf h x with
    | some ts => .ok (.ref h.length) (h ++ [.lst (cutL ts lo hi)])
    | none => .stuck
theorem cutL_whole {α : Type} {xs : List α} {lo hi : Option Int} (h : HT.sIx xs.length 0 lo = 0 ∧ HT.sIx xs.length xs.length hi = xs.length) : cutL xs lo hi = xs := by
  unfold cutL
  rw [h.1, h.2]; simp
theorem sl_T : SlR X (fun x lo hi H Q => ∃ m th a, Rel (gc X) m th H ∧ VR X.K m H a x ∧ WT (gc X) EO m H (fSlice a lo hi th) Q) := by
  intro pins s σ H x v vl vu lo hi sl Q I rx hs pl pu ⟨m, th, a, R, ra, w⟩
  unfold fSlice at w
  split at w
  · cases ra
    split at w
    · rename_i hz
      exact sl_str pins s σ H _ v vl vu lo hi sl Q I rx hs pl pu ⟨_, rfl, hz, Pn.done w R _ (.str _)⟩
    · exact w.elim
  · rename_i ts
    cases ra with
    | @tup _ p xs h1 h2 =>
    by_cases hw : HT.sIx xs.length 0 lo = 0 ∧ HT.sIx xs.length xs.length hi = xs.length
    · refine sl_tupA pins s σ H _ v vl vu lo hi sl Q I rx hs pl pu ⟨p, xs, rfl, h1.t, fun _ => ?_, fun z => absurd hw z⟩
      have e : cutL ts lo hi = ts := cutL_whole (by rw [h2.length]; exact hw)
      rw [e] at w
      exact Pn.done w R _ (.tup h1 h2)
    · cases rx
      obtain ⟨its, r, ht, hz⟩ := I.tuple h1.t
      have hlen : its.toArray.size = xs.length := by rw [List.size_toArray]; exact r.length.symm
      refine ⟨"tuple", _, PyProof.Rows.slot_tuple_getitem.lookup, ht.typeIs, ?_⟩
      refine HT.getItem_tuple_cut ht hs pl pu (by rw [hlen]; exact hw) ?_ (by rw [hlen]; exact hz)
      rw [hlen]
      obtain ⟨I2, hp⟩ := tup_laid (X := X) (t' := s.toks) (h' := s.heap) (s := s) (xs := cutV xs lo hi) I (Nat.le_trans (cutV_length xs lo hi) hz) ((r.drop (HT.sIx xs.length 0 lo)).take (HT.sIx xs.length xs.length hi - HT.sIx xs.length 0 lo))
      obtain ⟨w1, w2⟩ := tup_new (o := obT ((its.drop (HT.sIx xs.length 0 lo)).take (HT.sIx xs.length xs.length hi - HT.sIx xs.length 0 lo))) R hp rfl (cutL_vr h2 lo hi) w
      exact ⟨.ref s.heap.objs.size, _, I2, rfl, w1 _ w2⟩
  · split at w
    · rename_i ts e1
      obtain ⟨p, xs, rfl, hq, rs⟩ := items_sq (G := gc X) R ra e1
      rcases hq with hq | hq
      · refine sl_list pins s σ H _ v vl vu lo hi sl Q I rx hs pl pu ⟨p, xs, rfl, hq, fun q hq => ?_⟩
        obtain ⟨w1, w2⟩ := lst_new R hq (cutL_vr rs lo hi) w
        exact w1 _ w2
      · cases ra with
        | tup _ _ => simp_all
        | @ref k _ h1 =>
          simp only [itemsOf] at e1
          split at e1
          · rename_i us hk
            obtain ⟨xs2, h2, h3⟩ := R.at_ k _ _ h1 hk
            cases e1
            refine sl_list pins s σ H _ v vl vu lo hi sl Q I rx hs pl pu ⟨p, xs2, rfl, .of h2, fun q hq => ?_⟩
            obtain ⟨w1, w2⟩ := lst_new R hq (cutL_vr h3 lo hi) w
            exact w1 _ w2
          · cases e1
        | @scr ns _ h1 =>
          have e : ns.map T.int = ts := by simpa [itemsOf] using e1
          subst e
          refine sl_list pins s σ H _ v vl vu lo hi sl Q I rx hs pl pu ⟨p, _, rfl, h1.l, fun q hq => ?_⟩
          obtain ⟨w1, w2⟩ := lst_new R hq (cutL_vr (VRs.ints ns) lo hi) w
          exact w1 _ w2
    · exact w.elim
def eSlice (a : ME) (l u : MO) : ME := fun σ h => (a σ h).bind fun x h1 => (l σ h1).bind fun lo h2 => (u σ h2).bind fun hi h3 => fSlice x lo hi h3
theorem de_slice {e : Expr} {lo hi : Option Expr} {d : ME} {dl du : MO} {pos p2 : Pos} (he : DE X EO e d) (hl : DO X EO lo dl) (hu : DO X EO hi du) : DE X EO (.Subscript e (.Slice lo hi none p2) pos) (eSlice d dl du) := by
  refine ⟨(pe_slice (sl_T (EO := EO)) he.pe hl.po hu.po).of fun σ H Q ⟨m, σt, th, sr, R, h⟩ => ⟨m, σt, th, sr, R, h.bind.imp fun t th1 m1 H1 x R1 h1 v vr => ⟨m1, σt, th1, sr.mono x.pre x.kp, R1, h1.bind.imp fun o th2 m2 H2 x2 R2 h2 =>
    ⟨m2, σt, th2, (sr.mono x.pre x.kp).mono x2.pre x2.kp, R2, h2.bind.imp fun o2 th3 m3 H3 x3 R3 h3 => ⟨m3, th3, t, R3, (vr.mono x2.pre x2.kp).mono x3.pre x3.kp, h3⟩⟩⟩⟩⟩

/-! ### len -/
def fLen : Fn := fun ts h => match ts with
  | [x] => match x with
    | .str z => if z.length ≤ sizeLine then .ok (.int z.length) h else .stuck
    | .ref k => match h[k]? with
      | some (.lst ts) => .ok (.int ts.length) h
      | some (.dic kvs) => .ok (.int kvs.length) h
      | _ => .stuck
    | _ => match itemsOf h x with
      | some ts => .ok (.int ts.length) h
      | none => .stuck
  | _ => .stuck
theorem KR.length {K : PySem.W.Frag} {m : List Addr} {H : Hp} {kvs : List (T × T)} {xs : List (Key × V)} (r : KR K m H kvs xs) : kvs.length = xs.length := Paired.length r
theorem cf_len : CallF X EO (.builtin "len") fLen := by
  intro pins s σ H xs us Q I r ⟨m, th, ts, R, rs, w⟩
  have seq : ∀ {t : T} {v : V} {l : List T}, VR X.K m H t v → itemsOf th t = some l → xs = [v] → WT (gc X) EO m H (.ok (.int l.length) th) Q → wpAny (model X.prog X.w) X.A (call (.builtin "len") us) (EP X pins σ Q) X.xe s := by
    intro t v l vr e1 ex w
    subst ex
    obtain ⟨p, ys, rfl, hq, rs⟩ := items_sq (G := gc X) R vr e1
    refine call_len_seq pins s σ H _ us Q I r ⟨p, ys, rfl, hq, ?_⟩
    rw [← rs.length]
    exact Pn.done w R _ (.int _)
  unfold fLen at w
  split at w
  · rename_i t
    cases rs with
    | cons vr rr =>
    cases rr
    split at w
    · cases vr
      split at w
      · rename_i hz
        exact call_len_str pins s σ H _ us Q I r ⟨_, rfl, hz, Pn.done w R _ (.int _)⟩
      · exact w.elim
    · rename_i k
      split at w
      · rename_i l hk
        exact seq vr (show itemsOf th (.ref k) = some l by simp [itemsOf, hk]) rfl w
      · rename_i kvs hk
        cases vr with
        | @ref _ a h1 =>
        obtain ⟨ys, h2, h3⟩ := R.at_ k a _ h1 hk
        obtain ⟨u, rfl, rx⟩ := r.one
        cases (show u = Value.ref a from rx)
        exact d_len I (.inl h2) fun t s' I' => ⟨.int ys.length, H, I', ⟨_, rfl⟩, by rw [← KR.length h3]; exact Pn.done w R _ (.int _)⟩
      · exact w.elim
    · split at w
      · rename_i l e1
        exact seq vr e1 rfl w
      · exact w.elim
  · exact w.elim

/-! ### isinstance -/
inductive Ty where
  | non | bl | int | str | tup | lst | dic
  deriving DecidableEq
def Ty.nm : Ty → String
  | .non => "NoneType"
  | .bl => "bool"
  | .int => "int"
  | .str => "str"
  | .tup => "tuple"
  | .lst => "list"
  | .dic => "dict"
/-- is an instance of the first one of the second -/
def Ty.is : Ty → Ty → Bool
  | .bl, .int => true
  | a, b => decide (a = b)
def tyT (h : TH) : T → Option Ty
  | .non => some .non
  | .bl _ => some .bl
  | .int _ => some .int
  | .str _ => some .str
  | .tup _ => some .tup
  | .scr _ => some .lst
  | .ref k => match h[k]? with
    | some (.lst _) => some .lst
    | some (.dic _) => some .dic
    | _ => none
theorem ty_is : ∀ a b : Ty, kitB a.nm b.nm = some (a.is b) := by
  intro a b
  cases a <;> cases b <;> decide +kernel
theorem tyX_of {G : Gc} {m : List Addr} {th : TH} {H : Hp} {t : T} {v : V} {ty : Ty} (R : Rel G m th H) (r : VR G.K m H t v) (e : tyT th t = some ty) : TyX G.K H v (.type ty.nm) := by
  cases r with
  | non => cases e; exact .base .non
  | bl b => cases e; exact .base (.bl b)
  | int i => cases e; exact .base (.int i)
  | str x => cases e; exact .base (.str x)
  | @tup _ a _ h1 _ =>
    cases e
    rcases h1 with ⟨o, h1, _⟩ | ⟨o, _, _, h1, h2, _⟩
    · exact .fTuple h1
    · exact .kTuple h1 h2
  | @ref k a h1 =>
    simp only [tyT] at e
    split at e
    · rename_i l hk
      cases e
      obtain ⟨xs, h2, _⟩ := R.at_ k a _ h1 hk
      exact .base (.lst h2)
    · rename_i l hk
      cases e
      obtain ⟨xs, h2, _⟩ := R.at_ k a _ h1 hk
      exact .base (.dK h2)
    · cases e
  | @scr ns a h1 =>
    cases e
    rcases h1 with ⟨o, h1⟩ | ⟨o, _, _, h1, h2, _⟩
    · exact .base (.frz h1)
    · exact .kList h1 h2
def fIsInst (c : Ty) (t : T) (h : TH) : Res T := match tyT h t with
  | some ty => .ok (.bl (ty.is c)) h
  | none => .stuck
theorem de_isinst {e : Expr} {d : ME} {c : Ty} {x : Str} {p p2 pos : Pos} (hm : X.mg "isinstance" = none) (he : DE X EO e d) (hm2 : X.mg x = none) (hv2 : bootBuiltins x = some (.type c.nm)) (hg : Gl X "isinstance" := by rfl) (hg2 : Gl X x := by rfl)
    (hn2 : x ≠ "__name__" := by decide) (hd2 : (x == ("__debug__" : Str)) = false := by decide) (he2 : starEach [e, .Name x p2] X.env = (false, eval e X.env) :: starEach [.Name x p2] X.env := by rfl)
    (hpl : (backTo pos (starEach [.Name x p2] X.env)).any (·.1) = false := by rfl) (he3 : starEach [.Name x p2] X.env = (false, eval (.Name x p2) X.env) :: starEach [] X.env := by rfl) :
    DE X EO (.Call (.Name "isinstance" p) [e, .Name x p2] [] pos) (eUn (fIsInst c) d) := by
  have hb : bootBuiltins ("isinstance" : Str) = some (.builtin "isinstance") := by decide +kernel
  refine ⟨(pe_callB call_isi hg hm hb (pa_cons he.pe (pa_cons (pe_bltn (v := .ty c.nm) hg2 hm2 hv2 rfl hn2 hd2) pa_nil he3) he2) (by decide) (by decide) he2 hpl).of fun σ H Q ⟨m, σt, th, sr, R, h⟩ => ⟨m, σt, th, sr, R, h.bind.imp fun t th1 m1 H1 x R1 h1 v vr => ?_⟩⟩
  unfold fIsInst at h1
  split at h1
  · rename_i ty e1
    exact ⟨v, .ty c.nm, .type ty.nm, .type c.nm, ty.is c, rfl, .ty _, tyX_of (G := gc X) R1 vr e1, kit_ty (ty_is ty c), Pn.done h1 R1 _ (.bl _)⟩
  · exact h1.elim

/-! ### tuple(x), list(x), int(x), str(x) -/
def fTuple : Fn := fun ts h => match ts with
  | [x] => match itemsOf h x with
    | some l => .ok (.tup l) h
    | none => .stuck
  | _ => .stuck
theorem cf_tuple : CallF X EO (.type "tuple") fTuple := by
  intro pins s σ H xs us Q I r ⟨m, th, ts, R, rs, w⟩
  unfold fTuple at w
  split at w
  · rename_i t
    cases rs with
    | cons vr rr =>
    cases rr
    split at w
    · rename_i l e1
      have mk : ∀ {a : Addr} {ys : List V}, SqL X.K H a ys → VRs X.K m H l ys → us = [Value.ref a] → wpAny (model X.prog X.w) X.A (call (.type "tuple") us) (EP X pins σ Q) X.xe s := by
        intro a ys hq rs e
        subst e
        obtain ⟨its, r', pl, hz⟩ := I.list hq
        have hlen := r'.length
        refine call_tuple_list pl.isList (fun h' kp => ?_) (by simp only [List.size_toArray] <;> omega)
        have I1 : Inv X pins σ H { s with heap := h' } := I.kept (t' := s.toks) kp
        obtain ⟨I2, hp⟩ := tup_laid (X := X) (t' := s.toks) (h' := h') (s := s) (xs := ys) I1 hz r'
        obtain ⟨w1, w2⟩ := tup_new (o := obT its) R hp rfl rs w
        exact ⟨.ref h'.objs.size, _, I2, rfl, w1 _ w2⟩
      obtain ⟨u, rfl, rx⟩ := r.one
      cases vr with
      | @tup us2 a ys h1 h2 =>
        have e : us2 = l := by simpa [itemsOf] using e1
        subst e
        exact call_tuple_of pins s σ H _ _ Q I r ⟨a, ys, rfl, .inr ⟨h1.t, Pn.done w R _ (.tup h1 h2)⟩⟩
      | @ref k a h1 =>
        simp only [itemsOf] at e1
        split at e1
        · rename_i us2 hk
          cases e1
          obtain ⟨ys, h2, h3⟩ := R.at_ k a _ h1 hk
          exact mk (.of h2) h3 (by rw [show u = Value.ref a from rx])
        · cases e1
      | @scr ns a h1 =>
        have e : ns.map T.int = l := by simpa [itemsOf] using e1
        subst e
        exact mk h1.l (VRs.ints ns) (by rw [show u = Value.ref a from rx])
      | _ => simp [itemsOf] at e1
    · exact w.elim
  · exact w.elim
def fList : Fn := fun ts h => match ts with
  | [x] => match itemsOf h x with
    | some l => .ok (.ref h.length) (h ++ [.lst l])
    | none => match x with
      | .ref k => match h[k]? with
        | some (.dic kvs) => .ok (.ref h.length) (h ++ [.lst (kvs.map (·.1))])
        | _ => .stuck
      | _ => .stuck
  | _ => .stuck
theorem KR.keys {K : PySem.W.Frag} {m : List Addr} {H : Hp} : ∀ {kvs : List (T × T)} {xs : List (Key × V)}, KR K m H kvs xs → VRs K m H (kvs.map (·.1)) (xs.map fun kv => kV kv.1)
  | _, _, .nil => .nil
  | _, _, .cons (a := p) (b := q) h t => by
    simp only [List.map_cons]
    refine .cons ?_ (KR.keys t)
    rw [h.1]
    cases q.1 with
    | inl i => exact .int i
    | inr x => exact .str x
theorem KR.vals {K : PySem.W.Frag} {m : List Addr} {H : Hp} : ∀ {kvs : List (T × T)} {xs : List (Key × V)}, KR K m H kvs xs → VRs K m H (kvs.map (·.2)) (xs.map (·.2))
  | _, _, .nil => .nil
  | _, _, .cons (a := p) (b := q) h t => .cons h.2 (KR.vals t)
theorem cf_list (hc : X.calm = true) : CallF X EO (.type "list") fList := by
  intro pins s σ H xs us Q I r ⟨m, th, ts, R, rs, w⟩
  unfold fList at w
  split at w
  · rename_i t
    cases rs with
    | cons vr rr =>
    cases rr
    split at w
    · rename_i l e1
      obtain ⟨p, ys, rfl, hq, rs⟩ := items_sq (G := gc X) R vr e1
      refine call_list_of pins s σ H _ us Q I r ⟨p, ys, rfl, hq, fun q hq => ?_⟩
      obtain ⟨w1, w2⟩ := lst_new R hq rs w
      exact w1 _ w2
    · split at w
      · rename_i k _
        split at w
        · rename_i kvs hk
          cases vr with
          | @ref _ a h1 =>
          obtain ⟨ys, h2, h3⟩ := R.at_ k a _ h1 hk
          refine call_list_dK hc pins s σ H _ us Q I r ⟨a, ys, rfl, h2, fun q hq => ?_⟩
          obtain ⟨w1, w2⟩ := lst_new R hq (KR.keys h3) w
          exact w1 _ w2
        · exact w.elim
      · exact w.elim
  · exact w.elim
def fInt : Fn := fun ts h => match ts with
  | [.int i] => .ok (.int i) h
  | [.bl k] => .ok (.int (if k then 1 else 0)) h
  | [.str a] => match PySem.intText? a with
    | some n => if a.length ≤ 640 then .ok (.int n) h else .stuck
    | none => .stuck
  | _ => .stuck
theorem cf_int : CallF X EO (.type "int") fInt := by
  intro pins s σ H xs us Q I r ⟨m, th, ts, R, rs, w⟩
  unfold fInt at w
  split at w
  · cases rs with
    | cons vr rr =>
    cases rr; cases vr
    exact call_int1 pins s σ H _ us Q I r (.inl ⟨_, rfl, Pn.done w R _ (.int _)⟩)
  · cases rs with
    | cons vr rr =>
    cases rr; cases vr
    exact call_int1 pins s σ H _ us Q I r (.inr ⟨_, rfl, Pn.done w R _ (.int _)⟩)
  · cases rs with
    | cons vr rr =>
    cases rr; cases vr
    split at w
    · rename_i n e
      split at w
      · rename_i hz
        exact call_int_str pins s σ H _ us Q I r ⟨_, n, rfl, e, hz, Pn.done w R _ (.int _)⟩
      · exact w.elim
    · exact w.elim
  · exact w.elim
def fStr : Fn := fun ts h => match ts with
  | [.int i] => if i.natAbs.log2 < 1920 then .ok (.str (toString i)) h else .stuck
  | _ => .stuck
theorem cf_str : CallF X EO (.type "str") fStr := by
  intro pins s σ H xs us Q I r ⟨m, th, ts, R, rs, w⟩
  unfold fStr at w
  split at w
  · cases rs with
    | cons vr rr =>
    cases rr; cases vr
    split at w
    · rename_i hz
      exact call_str_int pins s σ H _ us Q I r ⟨_, rfl, hz, Pn.done w R _ (.str _)⟩
    · exact w.elim
  · exact w.elim
def fAbs : Fn := fun ts h => match ts with
  | [.int i] => .ok (.int (if i < 0 then -i else i)) h
  | _ => .stuck
theorem cf_abs : CallF X EO (.builtin "abs") fAbs := by
  intro pins s σ H xs us Q I r ⟨m, th, ts, R, rs, w⟩
  unfold fAbs at w
  split at w
  · cases rs with
    | cons vr rr =>
    cases rr; cases vr
    exact call_abs pins s σ H _ us Q I r ⟨_, rfl, Pn.done w R _ (.int _)⟩
  · exact w.elim

/-! ### all, any, sum, max, min -/
def blsOf : List T → Option (List Bool)
  | [] => some []
  | .bl b :: ts => (blsOf ts).map (b :: ·)
  | _ :: _ => none
def intsOf : List T → Option (List Int)
  | [] => some []
  | .int b :: ts => (intsOf ts).map (b :: ·)
  | _ :: _ => none
theorem blsOf_vr {K : PySem.W.Frag} {m : List Addr} {H : Hp} : ∀ {ts : List T} {xs : List V} {bs : List Bool}, VRs K m H ts xs → blsOf ts = some bs → xs = bs.map V.bl
  | [], _, bs, .nil, e => by simp [blsOf] at e; subst e; rfl
  | t :: ts, _, bs, .cons a b, e => by
    cases a with
    | bl c =>
      simp only [blsOf] at e
      obtain ⟨l, e1, e2⟩ := Option.map_eq_some_iff.mp e
      subst e2
      rw [blsOf_vr b e1]; rfl
    | _ => simp [blsOf] at e
theorem intsOf_vr {K : PySem.W.Frag} {m : List Addr} {H : Hp} : ∀ {ts : List T} {xs : List V} {bs : List Int}, VRs K m H ts xs → intsOf ts = some bs → xs = bs.map V.int
  | [], _, bs, .nil, e => by simp [intsOf] at e; subst e; rfl
  | t :: ts, _, bs, .cons a b, e => by
    cases a with
    | int c =>
      simp only [intsOf] at e
      obtain ⟨l, e1, e2⟩ := Option.map_eq_some_iff.mp e
      subst e2
      rw [intsOf_vr b e1]; rfl
    | _ => simp [intsOf] at e
/-- a function of a made list -/
def lstArg (h : TH) : List T → Option (List T)
  | [.ref k] => match h[k]? with
    | some (.lst ts) => some ts
    | _ => none
  | _ => none
theorem lstArg_at {G : Gc} {m : List Addr} {th : TH} {H : Hp} {ts l : List T} {xs : List V} (R : Rel G m th H) (rs : VRs G.K m H ts xs) (e : lstArg th ts = some l) : ∃ a ys, xs = [.ref a] ∧ H a = some (.lst ys) ∧ VRs G.K m H l ys := by
  unfold lstArg at e
  split at e
  · rename_i k
    cases rs with
    | cons vr rr =>
    cases rr
    cases vr with
    | @ref _ a h1 =>
    split at e
    · rename_i us hk
      cases e
      obtain ⟨ys, h2, h3⟩ := R.at_ k a _ h1 hk
      exact ⟨a, ys, rfl, h2, h3⟩
    · cases e
  · cases e
def fAll : Fn := fun ts h => match lstArg h ts with
  | some l => match blsOf l with
    | some bs => .ok (.bl (bs.all id)) h
    | none => .stuck
  | none => .stuck
def fAny : Fn := fun ts h => match lstArg h ts with
  | some l => match blsOf l with
    | some bs => .ok (.bl (bs.any id)) h
    | none => .stuck
  | none => .stuck
theorem cf_all (hc : X.calm = true) : CallF X EO (.builtin "all") fAll := by
  intro pins s σ H xs us Q I r ⟨m, th, ts, R, rs, w⟩
  unfold fAll at w
  split at w
  · rename_i l e1
    split at w
    · rename_i bs e2
      obtain ⟨a, ys, rfl, h2, h3⟩ := lstArg_at (G := gc X) R rs e1
      have e3 := blsOf_vr h3 e2
      subst e3
      exact cr_all hc pins s σ H _ us Q I r ⟨a, bs, rfl, .of h2, Pn.done w R _ (.bl _)⟩
    · exact w.elim
  · exact w.elim
theorem cf_any (hc : X.calm = true) : CallF X EO (.builtin "any") fAny := by
  intro pins s σ H xs us Q I r ⟨m, th, ts, R, rs, w⟩
  unfold fAny at w
  split at w
  · rename_i l e1
    split at w
    · rename_i bs e2
      obtain ⟨a, ys, rfl, h2, h3⟩ := lstArg_at (G := gc X) R rs e1
      have e3 := blsOf_vr h3 e2
      subst e3
      exact cr_any hc pins s σ H _ us Q I r ⟨a, bs, rfl, .of h2, Pn.done w R _ (.bl _)⟩
    · exact w.elim
  · exact w.elim
def fSum : Fn := fun ts h => match lstArg h ts with
  | some l => match intsOf l with
    | some bs => .ok (.int bs.sum) h
    | none => .stuck
  | none => .stuck
theorem cf_sum (hc : X.calm = true) : CallF X EO (.builtin "sum") fSum := by
  intro pins s σ H xs us Q I r ⟨m, th, ts, R, rs, w⟩
  unfold fSum at w
  split at w
  · rename_i l e1
    split at w
    · rename_i bs e2
      obtain ⟨a, ys, rfl, h2, h3⟩ := lstArg_at (G := gc X) R rs e1
      have e3 := intsOf_vr h3 e2
      subst e3
      exact cr_sum hc pins s σ H _ us Q I r ⟨a, bs, rfl, .of h2, Pn.done w R _ (.int _)⟩
    · exact w.elim
  · exact w.elim
def maxI : List Int → Option Int
  | [] => none
  | x :: xs => some (xs.foldl max x)
def minI : List Int → Option Int
  | [] => none
  | x :: xs => some (xs.foldl min x)
theorem foldl_max_mem : ∀ (xs : List Int) (x : Int), xs.foldl max x ∈ x :: xs ∧ ∀ y ∈ x :: xs, y ≤ xs.foldl max x
  | [], x => by simp
  | y :: xs, x => by
    obtain ⟨h1, h2⟩ := foldl_max_mem xs (max x y)
    simp only [List.foldl_cons]
    refine ⟨?_, fun z hz => ?_⟩
    · rcases List.mem_cons.mp h1 with e | e
      · rw [e]; by_cases h : x ≤ y
        · rw [Int.max_eq_right h]; simp
        · rw [Int.max_eq_left (by omega)]; simp
      · simp [e]
    · have hm := h2 (max x y) (by simp)
      have hx : x ≤ max x y := Int.le_max_left _ _
      have hy : y ≤ max x y := Int.le_max_right _ _
      rcases List.mem_cons.mp hz with e | e
      · omega
      · rcases List.mem_cons.mp e with e | e
        · omega
        · exact h2 z (by simp [e])
theorem foldl_min_mem : ∀ (xs : List Int) (x : Int), xs.foldl min x ∈ x :: xs ∧ ∀ y ∈ x :: xs, xs.foldl min x ≤ y
  | [], x => by simp
  | y :: xs, x => by
    obtain ⟨h1, h2⟩ := foldl_min_mem xs (min x y)
    simp only [List.foldl_cons]
    refine ⟨?_, fun z hz => ?_⟩
    · rcases List.mem_cons.mp h1 with e | e
      · rw [e]; by_cases h : x ≤ y
        · rw [Int.min_eq_left h]; simp
        · rw [Int.min_eq_right (by omega)]; simp
      · simp [e]
    · have hm := h2 (min x y) (by simp)
      have hx : min x y ≤ x := Int.min_le_left _ _
      have hy : min x y ≤ y := Int.min_le_right _ _
      rcases List.mem_cons.mp hz with e | e
      · omega
      · rcases List.mem_cons.mp e with e | e
        · omega
        · exact h2 z (by simp [e])
def fMax : Fn := fun ts h => match ts with
  | [.int i, .int j] => .ok (.int (if j > i then j else i)) h
  | _ => match lstArg h ts with
    | some l => match intsOf l with
      | some bs => match maxI bs with
        | some m => .ok (.int m) h
        | none => .stuck
      | none => .stuck
    | none => .stuck
def fMin : Fn := fun ts h => match ts with
  | [.int i, .int j] => .ok (.int (if j < i then j else i)) h
  | _ => match lstArg h ts with
    | some l => match intsOf l with
      | some bs => match minI bs with
        | some m => .ok (.int m) h
        | none => .stuck
      | none => .stuck
    | none => .stuck
theorem cf_max (hc : X.calm = true) : CallF X EO (.builtin "max") fMax := by
  intro pins s σ H xs us Q I r ⟨m, th, ts, R, rs, w⟩
  unfold fMax at w
  split at w
  · cases rs with
    | cons vr rr =>
    cases rr with
    | cons vr2 rr =>
    cases rr; cases vr; cases vr2
    exact call_max2 hc pins s σ H _ us Q I r ⟨_, _, rfl, Pn.done w R _ (.int _)⟩
  · split at w
    · rename_i l e1
      split at w
      · rename_i bs e2
        split at w
        · rename_i k e4
          obtain ⟨a, ys, rfl, h2, h3⟩ := lstArg_at (G := gc X) R rs e1
          have e3 := intsOf_vr h3 e2
          subst e3
          unfold maxI at e4
          split at e4
          · cases e4
          · rename_i y ys2
            cases e4
            obtain ⟨g1, g2⟩ := foldl_max_mem ys2 y
            refine cr_max hc pins s σ H _ us Q I r ⟨a, y :: ys2, rfl, .of h2, by simp, fun k h1 h2 => ?_⟩
            have e : k = ys2.foldl max y := Int.le_antisymm (g2 k h1) (h2 _ g1)
            rw [e]
            exact Pn.done w R _ (.int _)
        · exact w.elim
      · exact w.elim
    · exact w.elim
theorem cf_min (hc : X.calm = true) : CallF X EO (.builtin "min") fMin := by
  intro pins s σ H xs us Q I r ⟨m, th, ts, R, rs, w⟩
  unfold fMin at w
  split at w
  · cases rs with
    | cons vr rr =>
    cases rr with
    | cons vr2 rr =>
    cases rr; cases vr; cases vr2
    exact call_min2 hc pins s σ H _ us Q I r ⟨_, _, rfl, Pn.done w R _ (.int _)⟩
  · split at w
    · rename_i l e1
      split at w
      · rename_i bs e2
        split at w
        · rename_i k e4
          obtain ⟨a, ys, rfl, h2, h3⟩ := lstArg_at (G := gc X) R rs e1
          have e3 := intsOf_vr h3 e2
          subst e3
          unfold minI at e4
          split at e4
          · cases e4
          · rename_i y ys2
            cases e4
            obtain ⟨g1, g2⟩ := foldl_min_mem ys2 y
            refine cr_min hc pins s σ H _ us Q I r ⟨a, y :: ys2, rfl, .of h2, by simp, fun k h1 h2 => ?_⟩
            have e : k = ys2.foldl min y := Int.le_antisymm (h2 _ g1) (g2 k h1)
            rw [e]
            exact Pn.done w R _ (.int _)
        · exact w.elim
      · exact w.elim
    · exact w.elim

/-! ### sorted -/
def encT (h : TH) (t : T) : PyData := (dat 66 h t).getD .none
def leT (h : TH) (a b : T) : Bool := PySem.W.dataLe false (encT h) a b
def sortable (ds : List PyData) : Bool := (ds.all fun d => match d with | .tuple (_ :: _) => true | _ => false) || ds.all fun d => match d with | .none => false | .tuple _ => false | _ => true
def allAlike (ds : List PyData) : Bool := ds.all fun d => ds.all fun e => PySem.W.alike d e
def sortT (h : TH) (l : List T) : Option (List T) :=
  if (l.all fun t => (dat 66 h t).isSome) = true ∧ allAlike (l.map (encT h)) = true ∧ sortable (l.map (encT h)) = true ∧ (l.all fun t => decide ((encT h t).depth ≤ 60)) = true then some (l.mergeSort (leT h)) else none
theorem sortable_ok {ds : List PyData} (h : sortable ds = true) : PySem.W.Sortable ds := by
  unfold sortable at h
  rcases Bool.or_eq_true_iff.mp h with h | h
  · refine .inl fun d hd => ?_
    have q := List.all_eq_true.mp h d hd
    split at q
    · exact ⟨_, _, rfl⟩
    · cases q
  · refine .inr fun d hd => ?_
    have q := List.all_eq_true.mp h d hd
    split at q
    · cases q
    · cases q
    · rename_i h1 h2
      exact ⟨fun e => h1 e, fun xs e => h2 xs e⟩
theorem allAlike_ok {ds : List PyData} (h : allAlike ds = true) : PySem.W.AllAlike ds := fun d hd e he => List.all_eq_true.mp (List.all_eq_true.mp h d hd) e he
def RelVT (K : PySem.W.Frag) (m : List Addr) (H : Hp) (u : Value) (t : T) : Prop := ∃ v, RelV v u ∧ VR K m H t v
theorem each_of {K : PySem.W.Frag} {m : List Addr} {H : Hp} : ∀ {l : List T} {ys : List V} {us : List Value}, VRs K m H l ys → Vals ys us → PySem.W.EachIs (RelVT K m H) us l
  | _, _, _, .nil, .nil => .nil
  | _, _, _, .cons a b, .cons r s => .cons ⟨_, r, a⟩ (each_of b s)
theorem of_each {K : PySem.W.Frag} {m : List Addr} {H : Hp} : ∀ {l : List T} {us : List Value}, PySem.W.EachIs (RelVT K m H) us l → ∃ ys, VRs K m H l ys ∧ Vals ys us
  | _, _, .nil => ⟨[], .nil, .nil⟩
  | _, _, .cons ⟨v, r, a⟩ t => let ⟨ys, h1, h2⟩ := of_each t; ⟨v :: ys, .cons a h1, .cons r h2⟩
def fSorted : Fn := fun ts h => match ts with
  | [.ref k] => match h[k]? with
    | some (.lst l) => match sortT h l with
      | some l' => .ok (.ref h.length) (h ++ [.lst l'])
      | none => .stuck
    | _ => .stuck
  | _ => .stuck
theorem enc_reads {pins : List (Addr × Obj)} {σ : L2.St} {H : Hp} {s : Shared} {m : List Addr} {th : TH} (I : Inv X pins σ H s) (R : Rel (gc X) m th H) : ∀ {l : List T} {us : List Value}, PySem.W.EachIs (RelVT X.K m H) us l → (l.all fun t => (dat 66 th t).isSome) = true →
    PySem.W.EachIs (fun v b => ∃ as, Reads s.heap v (encT th b) as) us l
  | _, _, .nil, _ => .nil
  | _, _, .cons (a := u) (b := t) ⟨v, r, vr⟩ rest, e => by
    simp only [List.all_cons, Bool.and_eq_true] at e
    refine .cons ?_ (enc_reads I R rest e.2)
    obtain ⟨d, hd⟩ := Option.isSome_iff_exists.mp e.1
    have : encT th t = d := by unfold encT; rw [hd]; rfl
    rw [this]
    exact reads_dat I R vr r hd
theorem cf_sorted (hu : X.A.units + 66 < cLine) : CallF X EO (.builtin "sorted") fSorted := by
  intro pins s σ H xs us Q I r ⟨m, th, ts, R, rs, w⟩
  unfold fSorted at w
  split at w
  · rename_i k
    split at w
    · rename_i l hk
      split at w
      · rename_i l' e1
        cases rs with
        | cons vr rr =>
        cases rr
        cases vr with
        | @ref _ a h1 =>
        obtain ⟨ys, h2, h3⟩ := R.at_ k a _ h1 hk
        obtain ⟨u, rfl, rx⟩ := r.one
        cases (show u = Value.ref a from rx)
        obtain ⟨its, n, ri, ho, hz⟩ := I.lst h2
        unfold sortT at e1
        split at e1
        · rename_i hc
          cases e1
          obtain ⟨c1, c2, c3, c4⟩ := hc
          have E := each_of h3 ri
          have hl := h3.length
          refine PySem.W.sorted_data (bs := l) (enc := encT th) (R := RelVT X.K m H) ⟨_, ho, rfl, _, rfl⟩ E (enc_reads I R E c1) (allAlike_ok c2) (sortable_ok c3) (by omega) (fun b hb => ?_) fun out hout E2 => ?_
          · have := of_decide_eq_true (List.all_eq_true.mp c4 b hb)
            omega
          · obtain ⟨zs, v1, v2⟩ := of_each E2
            obtain ⟨c, hcap⟩ := PyProof.Rows.sortedAll_at s.heap its out.toArray
            have hnew : s.heap.objs.size ≤ s.heap.objs.size + 1 := Nat.le_succ _
            have hf : H (s.heap.objs.size + 1) = none := I.hok.fresh hnew
            have lz : zs.length ≤ sizeLine := by have := v2.length; omega
            have I2 : Inv X pins σ (upd H (s.heap.objs.size + 1) (.lst zs)) { s with heap := PyProof.Rows.sortedAll s.heap its out.toArray } :=
              I.laid (a := s.heap.objs.size + 1) (t' := s.toks) (fun b o e => PyProof.Rows.sortedAll_old e) hnew ⟨lz, out, c, v2, hcap⟩
            obtain ⟨w1, w2⟩ := lst_new R hf v1 w
            exact ⟨.ref (s.heap.objs.size + 1), _, I2, rfl, w1 _ w2⟩
        · cases e1
      · exact w.elim
    · exact w.elim
  · exact w.elim
end
end TL

/-! T-layer, part E: statements, loops, comprehensions, defs. -/
namespace TL
open PySem PySem.Spec PyProof.Rows L2
section
variable {X : Cx} {EO : EOb} {pos : Pos} {e : Expr} {d : ME} {st : Stmt} {rest : List Stmt} {ds dr : MS}

/-! ### blocks -/
def sNil : MS := fun σ h => .nx σ h
def sSeq (a b : MS) : MS := fun σ h => (a σ h).then b
theorem dss_nil : DSs X EO [] sNil := ⟨pss_nil.of fun D σ H ⟨m, σt, th, sr, R, h⟩ => h m H σ (Ext.refl m H) R sr⟩
theorem dss_cons (h1 : DS X EO st ds) (h2 : DSs X EO rest dr) : DSs X EO (st :: rest) (sSeq ds dr) :=
  ⟨(pss_cons h1.ps h2.pss).of fun D σ H ⟨m, σt, th, sr, R, h⟩ => ⟨m, σt, th, sr, R, PnS.seq h⟩⟩
theorem dss_one (h1 : DS X EO st ds) : DSs X EO [st] ds := ⟨pss_one h1.ps⟩
theorem ds_pass : DS X EO (.Pass pos) sNil := ⟨ps_pass.of fun D σ H ⟨m, σt, th, sr, R, h⟩ => h m H σ (Ext.refl m H) R sr⟩
def sBreak : MS := fun σ h => .bk σ h
def sCont : MS := fun σ h => .ct σ h
theorem ds_break : DS X EO (.Break pos) sBreak := ⟨ps_break.of fun D σ H ⟨m, σt, th, sr, R, h⟩ => h m H σ (Ext.refl m H) R sr⟩
theorem ds_continue : DS X EO (.Continue pos) sCont := ⟨ps_continue.of fun D σ H ⟨m, σt, th, sr, R, h⟩ => h m H σ (Ext.refl m H) R sr⟩
def sExpr (e : ME) : MS := fun σ h => SRes.of (e σ h) fun _ h1 => .nx σ h1
theorem ds_expr (he : DE X EO e d) (hs : swapsWith e none pos.line X.env = pure false := by rfl) : DS X EO (.Expr e pos) (sExpr d) := by
  refine ⟨(ps_expr he.pe hs).of fun D σ H ⟨m, σt, th, sr, R, h⟩ => ⟨m, σt, th, sr, R, (PnS.of h).imp fun t th1 m1 H1 x R1 h1 v vr => ?_⟩⟩
  exact h1 m1 H1 σ (Ext.refl m1 H1) R1 (sr.mono x.pre x.kp)
def sRet (e : ME) : MS := fun σ h => SRes.of (e σ h) fun t h1 => .rt t h1
theorem ds_ret (he : DE X EO e d) : DS X EO (.Return (some e) pos) (sRet d) := by
  refine ⟨(ps_ret he.pe).of fun D σ H ⟨m, σt, th, sr, R, h⟩ => ⟨m, σt, th, sr, R, (PnS.of h).imp fun t th1 m1 H1 x R1 h1 v vr => ?_⟩⟩
  exact h1 m1 H1 v (Ext.refl m1 H1) R1 vr
def sRetN : MS := fun _ h => .rt .non h
theorem ds_retN : DS X EO (.Return none pos) sRetN := ⟨ps_retN.of fun D σ H ⟨m, σt, th, sr, R, h⟩ => h m H _ (Ext.refl m H) R .non⟩
def sIf (t : MB) (a b : MS) : MS := fun σ h => SRes.of (t σ h) fun c h1 => if c = true then a σ h1 else b σ h1
theorem ds_if {c : Expr} {a b : List Stmt} {tc : MB} {da db : MS} (hc : DT X EO c tc) (ha : DSs X EO a da) (hb : DSs X EO b db) : DS X EO (.If c a b pos) (sIf tc da db) := by
  refine ⟨(ps_if hc.pt ha.pss hb.pss).of fun D σ H ⟨m, σt, th, sr, R, h⟩ => ⟨m, σt, th, sr, R, (PnS.of h).imp fun k th1 m1 H1 x R1 h1 => ?_⟩⟩
  cases k with
  | true => exact iteT ⟨m1, σt, th1, sr.mono x.pre x.kp, R1, h1⟩
  | false => exact iteF ⟨m1, σt, th1, sr.mono x.pre x.kp, R1, h1⟩

/-! ### targets -/
/-- what is given to a target: a value, or a row that was laid for it alone -/
inductive Yv where
  | val (t : T) | parts (ts : List T)
def YR (K : PySem.W.Frag) (m : List Addr) (H : Hp) : Yv → V → Prop
  | .val t, v => VR K m H t v
  | .parts ts, v => ∃ a xs, v = .ref a ∧ SqT K H a xs ∧ VRs K m H ts xs
abbrev MG := Yv → Sl → TH → Res Sl
def tDG (G : Gc) (EO : EOb) (vs : List Nat) (g : MG) : TG := fun v σ H Q => ∃ m σt th y, SR G.K m H σt σ ∧ Rel G m th H ∧ YR G.K m H y v ∧ Pn G EO m H (g y σt th) fun σt' th' m' H' => ∀ σ', SR G.K m' H' σt' σ' → L2.wipe σ' vs = L2.wipe σ vs → Q σ' H'
structure DG (X : Cx) (EO : EOb) (tg : Expr) (vs : List Nat) (g : MG) : Prop where
  pg : PG X tg (tDG (gc X) EO vs g)
theorem _root_.L2.PG.of {X : Cx} {e : Expr} {t t' : TG} (h : PG X e t) (f : ∀ v σ H Q, t' v σ H Q → t v σ H Q) : PG X e t' := ⟨fun pins s σ H v u Q I r w => h.run pins s σ H v u Q I r (f v σ H Q w)⟩
theorem set_none_set {σ : L2.St} {i : Nat} {x : Option V} : (σ.set i x).set i none = σ.set i none := by
  exact List.set_set ..
theorem wipe_set {σ : L2.St} {i : Nat} {x : Option V} : ∀ {vs : List Nat}, i ∈ vs → L2.wipe (σ.set i x) vs = L2.wipe σ vs
  | v :: vs, h => by
    unfold L2.wipe
    by_cases hm : i ∈ vs
    · rw [wipe_set hm]
    · have e : v = i := by
        rcases List.mem_cons.mp h with e | e
        · exact e.symm
        · exact absurd e hm
      subst e
      have key : ∀ vs : List Nat, v ∉ vs → L2.wipe (σ.set v x) vs = (L2.wipe σ vs).set v x := by
        intro vs
        induction vs with
        | nil => intro _; rfl
        | cons u us ih =>
          intro hu
          unfold L2.wipe
          simp only [List.mem_cons, not_or] at hu
          rw [ih hu.2, List.set_comm _ _ hu.1]
      rw [key vs hm]
      exact List.set_set ..
theorem wipe_idem (σ : L2.St) : ∀ vs : List Nat, L2.wipe (L2.wipe σ vs) vs = L2.wipe σ vs := by
  have key : ∀ (us vs : List Nat), (∀ u ∈ us, u ∈ vs) → L2.wipe (L2.wipe σ us) vs = L2.wipe σ vs := by
    intro us
    induction us with
    | nil => intro vs _; rfl
    | cons u us ih =>
      intro vs h
      show L2.wipe ((L2.wipe σ us).set u none) vs = _
      rw [wipe_set (h u (by simp)), ih vs fun w hw => h w (by simp [hw])]
  exact fun vs => key vs vs fun _ h => h
def gName (i : Nat) : MG := fun y σ h => match y with
  | .val t => .ok (σ.set i (some t)) h
  | .parts _ => .stuck
theorem dg_name {i : Nat} {x : Str} {vs : List Nat} (hN : X.N.Nodup) (hv : i ∈ vs := by decide) (hi : X.N[i]? = some x := by rfl) (hx : Loc X.env.scope x := by first | exact Or.inl rfl | exact Or.inr rfl) (hf : X.fn x = true ∨ X.env.scope.names.lookup x = some .local := by first | exact .inl rfl | exact .inr rfl) : DG X EO (.Name x pos) vs (gName i) := by
  refine ⟨(pg_name hN hi hx hf).of fun v σ H Q ⟨m, σt, th, y, sr, R, yr, h⟩ => ?_⟩
  cases y with
  | val t => exact Pn.done h R _ (sr.set i yr) (wipe_set hv)
  | parts ts => exact h.elim
/-- several targets -/
abbrev MGs := List T → Sl → TH → Res Sl
def gsNil : MGs := fun ts σ h => match ts with
  | [] => .ok σ h
  | _ => .stuck
def gsCons (g : MG) (r : MGs) : MGs := fun ts σ h => match ts with
  | t :: ts => (g (.val t) σ h).bind fun σ1 h1 => r ts σ1 h1
  | [] => .stuck
def tDGs (G : Gc) (EO : EOb) (vs : List Nat) (g : MGs) : TGs := fun xs σ H Q => ∃ m σt th ts, SR G.K m H σt σ ∧ Rel G m th H ∧ VRs G.K m H ts xs ∧ Pn G EO m H (g ts σt th) fun σt' th' m' H' => ∀ σ', SR G.K m' H' σt' σ' → L2.wipe σ' vs = L2.wipe σ vs → Q σ' H'
structure DGs (X : Cx) (EO : EOb) (tgs : List Expr) (vs : List Nat) (g : MGs) : Prop where
  pgs : PGs X tgs (tDGs (gc X) EO vs g)
variable {es : List Expr} {vs : List Nat} {g : MG} {gs : MGs}
theorem _root_.L2.PGs.of {X : Cx} {e : List Expr} {t t' : TGs} (h : PGs X e t) (f : ∀ v σ H Q, t' v σ H Q → t v σ H Q) : PGs X e t' := ⟨fun pins s σ H v u Q I r w => h.run pins s σ H v u Q I r (f v σ H Q w)⟩
theorem dgs_nil : DGs X EO [] vs gsNil := by
  refine ⟨pgs_nil.of fun xs σ H Q ⟨m, σt, th, ts, sr, R, r, h⟩ => ?_⟩
  unfold gsNil at h
  split at h
  · cases r; exact ⟨rfl, Pn.done h R σ sr rfl⟩
  · exact h.elim
theorem dgs_cons (h1 : DG X EO e vs g) (h2 : DGs X EO es vs gs) (hs : (assignEach (e :: es) X.env).map (·.2) = assign e X.env :: (assignEach es X.env).map (·.2) := by rfl) : DGs X EO (e :: es) vs (gsCons g gs) := by
  refine ⟨(pgs_cons h1.pg h2.pgs hs).of fun xs σ H Q ⟨m, σt, th, ts, sr, R, r, h⟩ => ?_⟩
  unfold gsCons at h
  split at h
  · rename_i t0 ts0
    cases r with
    | cons a b =>
    refine ⟨_, _, rfl, m, σt, th, .val t0, sr, R, a, h.bind.imp fun σt1 th1 m1 H1 x R1 h1 σ1 sr1 w1 => ⟨m1, σt1, th1, ts0, sr1, R1, b.mono x.pre x.kp, h1.imp fun σt2 th2 m2 H2 x2 R2 h2 σ2 sr2 w2 => h2 σ2 sr2 (w2.trans w1)⟩⟩
  · exact h.elim
def gTup (gs : MGs) : MG := fun y σ h => match y with
  | .val (.tup ts) => gs ts σ h
  | .val _ => .stuck
  | .parts ts => gs ts σ h
/-- how many items a row of targets takes: told by its first answer -/
theorem dg_tup {k n : Nat} (hc : X.calm = true) (h : DGs X EO es vs gs) (hl : ∀ ts σ h, ts.length ≠ n → gs ts σ h = .stuck) (hn : (assignEach es X.env).length = n := by rfl) (hst : (assignEach es X.env).findIdx? (·.1) = none := by rfl) : DG X EO (.Tuple es k pos) vs (gTup gs) := by
  refine ⟨(pg_tup (n := n) hc h.pgs hn hst).of fun v σ H Q ⟨m, σt, th, y, sr, R, yr, h⟩ => ?_⟩
  have go : ∀ {ts : List T} {a : Addr} {xs : List V}, SqT X.K H a xs → VRs X.K m H ts xs → v = .ref a → Pn (gc X) EO m H (gs ts σt th) (fun σt' th' m' H' => ∀ σ', SR X.K m' H' σt' σ' → L2.wipe σ' vs = L2.wipe σ vs → Q σ' H') → L2.gTup X.K n (tDGs (gc X) EO vs gs) v σ H Q := by
    intro ts a xs h1 h2 ev w
    subst ev
    have hlen : ts.length = n := by
      by_cases q : ts.length = n
      · exact q
      · rw [hl ts σt th q] at w; exact w.elim
    exact ⟨a, xs, rfl, h1, by rw [← h2.length]; exact hlen, m, σt, th, ts, sr, R, h2, w⟩
  unfold TL.gTup at h
  split at h
  · rename_i ts
    cases yr with
    | @tup _ a xs h1 h2 => exact go h1.t h2 rfl h
  · exact h.elim
  · rename_i ts
    obtain ⟨a, xs, ev, h1, h2⟩ := yr
    exact go h1 h2 ev h
theorem gs_len0 : ∀ (ts : List T) (σ : Sl) (h : TH), ts.length ≠ 0 → gsNil ts σ h = .stuck := by
  intro ts σ h hn
  cases ts with
  | nil => exact absurd rfl hn
  | cons _ _ => rfl
theorem gs_lenS {i n : Nat} {r : MGs} (hr : ∀ (ts : List T) (σ : Sl) (h : TH), ts.length ≠ n → r ts σ h = .stuck) : ∀ (ts : List T) (σ : Sl) (h : TH), ts.length ≠ n + 1 → gsCons (gName i) r ts σ h = .stuck := by
  intro ts σ h hn
  cases ts with
  | nil => rfl
  | cons t ts => exact hr ts _ h (fun e => hn (by simp [e]))
/-- target = value -/
def sAsg (e : ME) (g : MG) : MS := fun σ h => SRes.of (e σ h) fun t h1 => SRes.of (g (.val t) σ h1) fun σ2 h2 => .nx σ2 h2
theorem tAsg_of {G : Gc} (D : Ends) (σ : L2.St) (H : Hp) (w : tDS G EO (sAsg d g) D σ H) : tAsg (tD G EO d) (tDG G EO vs g) D σ H := by
  obtain ⟨m, σt, th, sr, R, h⟩ := w
  refine ⟨m, σt, th, sr, R, (PnS.of h).imp fun t th1 m1 H1 x R1 h1 v vr => ⟨m1, σt, th1, .val t, sr.mono x.pre x.kp, R1, vr, (PnS.of h1).imp fun σ2 th2 m2 H2 x2 R2 h2 σv sr2 _ => h2 m2 H2 σv (Ext.refl _ _) R2 sr2⟩⟩
theorem ds_asg {tg : Expr} (he : DE X EO e d) (hg : DG X EO tg vs g) (hs : swapsWithSole [tg] e pos.line X.env = pure false := by rfl) (hw : swappedStores [tg] e X.env = pure none := by rfl) (h1 : (assignEach [tg] X.env).map (·.2) = [assign tg X.env] := by rfl) :
    DS X EO (.Assign [tg] e pos) (sAsg d g) := ⟨(ps_asg he.pe hg.pg hs hw h1).of tAsg_of⟩
def sSet (i : Nat) (e : ME) : MS := fun σ h => SRes.of (e σ h) fun t h1 => .nx (σ.set i (some t)) h1
theorem ds_set {i : Nat} {x : Str} {pos' : Pos} (hN : X.N.Nodup) (he : DE X EO e d) (hi : X.N[i]? = some x := by rfl) (hx : Loc X.env.scope x := by first | exact Or.inl rfl | exact Or.inr rfl) (hs : swapsWith e (some (.Name x pos')) pos.line X.env = pure false := by rfl)
    (hf : X.fn x = true ∨ X.env.scope.names.lookup x = some .local := by first | exact .inl rfl | exact .inr rfl) : DS X EO (.Assign [.Name x pos'] e pos) (sSet i d) := by
  refine ⟨(ps_set hN hi hx he.pe hs hf).of fun D σ H ⟨m, σt, th, sr, R, h⟩ => ⟨m, σt, th, sr, R, (PnS.of h).imp fun t th1 m1 H1 x R1 h1 v vr => ?_⟩⟩
  exact h1 m1 H1 _ (Ext.refl _ _) R1 ((sr.mono x.pre x.kp).set i vr)
/-- a, b = x, y -/
def sPar (i j : Nat) (as : ML) : MS := fun σ h => SRes.of (as σ h) fun ts h1 => match ts with
  | [t, u] => .nx ((σ.set i (some t)).set j (some u)) h1
  | _ => .stuck
theorem ds_par {i j : Nat} {x y : Str} {a b : Expr} {da : ML} {px py pt : Pos} {kt k2 : Nat} {pt2 : Pos} (hc : X.calm = true) (hN : X.N.Nodup) (ha : DA X EO [a, b] da) (hi : X.N[i]? = some x := by rfl) (hj : X.N[j]? = some y := by rfl) (hij : i ≠ j := by decide)
    (hx : X.env.scope.names.lookup x = some .local := by rfl) (hy : X.env.scope.names.lookup y = some .local := by rfl)
    (hw : swappedStores [.Tuple [.Name x px, .Name y py] kt pt] (.Tuple [a, b] k2 pt2) X.env = pure (some [x, y]) := by rfl)
    (hs : swapsWithSole [.Tuple [.Name x px, .Name y py] kt pt] (.Tuple [a, b] k2 pt2) pos.line X.env = pure false := by rfl) :
    DS X EO (.Assign [.Tuple [.Name x px, .Name y py] kt pt] (.Tuple [a, b] k2 pt2) pos) (sPar i j da) := by
  refine ⟨(ps_par hc hN hi hj hij hx hy ha.pa hw hs).of fun D σ H ⟨m, σt, th, sr, R, h⟩ => ⟨m, σt, th, sr, R, (PnS.of h).imp fun ts th1 m1 H1 x R1 h1 vs vrs => ?_⟩⟩
  split at h1
  · cases vrs with
    | cons v1 r =>
    cases r with
    | cons v2 r =>
    cases r
    exact ⟨_, _, rfl, h1 m1 H1 _ (Ext.refl _ _) R1 (((sr.mono x.pre x.kp).set i v1).set j v2)⟩
  · exact h1.elim
/-- o[i] = v of a list -/
def fSetL (o i t : T) (h : TH) : Res Unit := match o, i with
  | .ref k, .int z => match h[k]? with
    | some (.lst ts) => match ixN ts.length z with
      | some j => .ok () (h.set k (.lst (ts.set j t)))
      | none => .stuck
    | _ => .stuck
  | _, _ => .stuck
def tDSet (G : Gc) (EO : EOb) (f : T → T → T → TH → Res Unit) : TSet := fun o i v H Q => ∃ m th to ti tv, Rel G m th H ∧ VR G.K m H to o ∧ VR G.K m H ti i ∧ VR G.K m H tv v ∧ Pn G EO m H (f to ti tv th) fun _ _ _ H' => Q H'
theorem set_L : PSet X (tDSet (gc X) EO fSetL) := by
  intro pins s σ H o i v ov iv u Q I ro ri rv ⟨m, th, to, ti, tv, R, vo, vi, vv, w⟩
  unfold fSetL at w
  split at w
  · rename_i k z
    split at w
    · rename_i ts hk
      split at w
      · rename_i j hj
        cases vo with
        | @ref _ a h1 =>
        cases vi
        obtain ⟨xs, h2, h3⟩ := R.at_ k a _ h1 hk
        have kp : Keep H (upd H a (.lst (xs.set j v))) := by
          obtain ⟨n1, n2, _⟩ := (R.at_ k a _ h1 hk).not
          exact keep_upd n1 n2 _
        obtain ⟨R2, x⟩ := R.store h1 hk (.lst (xs.set j v)) (o' := .lst (ts.set j tv)) ⟨_, upd_same, (h3.set j vv).mono (List.prefix_refl _) kp⟩
        exact set_list pins s σ H _ _ v ov iv u Q I ro ri rv ⟨a, xs, z, j, rfl, rfl, h2, by rw [← h3.length]; exact hj, w m _ x R2⟩
      · exact w.elim
    · exact w.elim
  · exact w.elim
def gSub (f : T → T → T → TH → Res Unit) (o i : ME) : MG := fun y σ h => match y with
  | .val t => (o σ h).bind fun to h1 => (i σ h1).bind fun ti h2 => (f to ti t h2).bind fun _ h3 => .ok σ h3
  | .parts _ => .stuck
theorem dg_sub {o i : Expr} {dO dI : ME} {f : T → T → T → TH → Res Unit} (hf : PSet X (tDSet (gc X) EO f)) (ho : DE X EO o dO) (hi : DE X EO i dI)
    (ha : ∀ v, assign (.Subscript o i pos) X.env v = (do
      let ov ← holding [v] (eval o X.env)
      let iv ← holding [v, ov] (eval i X.env)
      standAt pos
      holding [v, ov, iv] (setItem ov iv v)
      release [v, ov, iv] []) := by intro _; rfl) : DG X EO (.Subscript o i pos) vs (gSub f dO dI) := by
  refine ⟨(pg_sub ho.pe hi.pe hf ha).of fun v σ H Q ⟨m, σt, th, y, sr, R, yr, h⟩ => ?_⟩
  cases y with
  | parts ts => exact h.elim
  | val t =>
    have yr : VR X.K m H t v := yr
    refine ⟨m, σt, th, sr, R, (Pn.bind h).imp fun to th1 m1 H1 x R1 h1 vo ro => ⟨m1, σt, th1, sr.mono x.pre x.kp, R1, h1.bind.imp fun ti th2 m2 H2 x2 R2 h2 vi ri =>
      ⟨m2, th2, to, ti, t, R2, ro.mono x2.pre x2.kp, ri, (yr.mono x.pre x.kp).mono x2.pre x2.kp, h2.bind.imp fun _ th3 m3 H3 x3 R3 h3 => ?_⟩⟩⟩
    have x13 := (x.trans x2).trans x3
    exact Pn.done h3 R3 σ (sr.mono x13.pre x13.kp) rfl
/-- name op= e -/
def sAug (f : Op2) (i : Nat) (e : ME) : MS := fun σ h => match σ[i]? with
  | some (some t) => SRes.of (e σ h) fun u h1 => SRes.of (f t u h1) fun z h2 => .nx (σ.set i (some z)) h2
  | _ => .stuck
theorem ds_aug {i : Nat} {x : Str} {op : Operator} {f : Op2} {pos' : Pos} (hN : X.N.Nodup) (ho : OpF X EO (inplaceOp op) f) (he : DE X EO e d) (hi : X.N[i]? = some x := by rfl) (hx : Loc X.env.scope x := by first | exact Or.inl rfl | exact Or.inr rfl)
    (hf : X.fn x = true ∨ X.env.scope.names.lookup x = some .local := by first | exact .inl rfl | exact .inr rfl) : DS X EO (.AugAssign (.Name x pos') op e pos) (sAug f i d) := by
  have hp : PIp X op (rT (gc X) EO f) := fun pins s σ H x y v u Q I r1 r2 h => ho pins s σ H x y v u Q I r1 r2 h
  refine ⟨(ps_aug hN hi hx he.pe hp hf).of fun D σ H ⟨m, σt, th, sr, R, h⟩ => ?_⟩
  unfold sAug at h
  split at h
  · rename_i t et
    obtain ⟨v, ev, vr⟩ := sr.get et
    refine ⟨v, ev, m, σt, th, sr, R, (PnS.of h).imp fun u th1 m1 H1 x R1 h1 w wr => ⟨m1, th1, t, u, R1, vr.mono x.pre x.kp, wr, (PnS.of h1).imp fun z th2 m2 H2 x2 R2 h2 zv zr => ?_⟩⟩
    exact h2 m2 H2 _ (Ext.refl _ _) R2 (((sr.mono x.pre x.kp).mono x2.pre x2.kp).set i zr)
  · exact h.elim
def fIAdd : Op2 := fun x y h => match x, y with
  | .int i, .int j => .ok (.int (i + j)) h
  | _, _ => .stuck
theorem of_iadd : OpF X EO (inplaceOp .Add) fIAdd := of_int (OpR.noC iop_add) fun a b h r e => by
  subst e; unfold fIAdd; split
  · exact .inr ⟨_, _, rfl, rfl, trivial, rfl⟩
  · exact .inl rfl
theorem of_isub : OpF X EO (inplaceOp .Sub) fSub := of_int (OpR.noC iop_sub) fun a b h r e => by
  subst e; unfold fSub; split
  · exact .inr ⟨_, _, rfl, rfl, trivial, rfl⟩
  · exact .inl rfl

/-! ### while -/
def FU : Nat := 1000000000000
def whN (c : MB) (b : MS) : Nat → MS
  | 0, _, _ => .stuck
  | n + 1, σ, h => SRes.of (c σ h) fun k h1 => if k = true then (match b σ h1 with
      | .nx σ2 h2 => whN c b n σ2 h2
      | .ct σ2 h2 => whN c b n σ2 h2
      | .bk σ2 h2 => .nx σ2 h2
      | r => r) else .nx σ h1
def sWhile (c : MB) (b : MS) : MS := whN c b FU
/-- behind a turn of a loop -/
theorem PnS.turn {G : Gc} {m : List Addr} {H : Hp} {r : SRes} {f : Sl → TH → SRes} {D : Ends} {N : L2.St → Hp → Prop} (h : PnS G EO m H (match r with
      | .nx σ2 h2 => f σ2 h2
      | .ct σ2 h2 => f σ2 h2
      | .bk σ2 h2 => .nx σ2 h2
      | r => r) D) (hN : ∀ m1 H1 σt th σ, Ext m H m1 H1 → Rel G m1 th H1 → SR G.K m1 H1 σt σ → PnS G EO m1 H1 (f σt th) D → N σ H1) : PnS G EO m H r { D with nx := N, ct := N, bk := D.nx } := by
  cases r with
  | nx σt th => exact fun m1 H1 σ x R q => hN m1 H1 σt th σ x R q (PnS.ext h x)
  | ct σt th => exact fun m1 H1 σ x R q => hN m1 H1 σt th σ x R q (PnS.ext h x)
  | bk σt th => exact h
  | rt => exact h
  | exc => exact h
  | stuck => exact h
theorem ds_while {c : Expr} {body : List Stmt} {tc : MB} {tb : MS} (hp : PassesOwn (model X.prog X.w) X.A X.env X.xe) (hc : DT X EO c tc) (hb : DSs X EO body tb) : DS X EO (.While c body [] pos) (sWhile tc tb) := by
  refine ⟨(ps_while hp hc.pt hb.pss).of fun D σ H ⟨m, σt, th, sr, R, h⟩ => ?_⟩
  refine ⟨fun n σ H => ∃ m σt th, SR X.K m H σt σ ∧ Rel (gc X) m th H ∧ PnS (gc X) EO m H (whN tc tb n σt th) D, ⟨FU, m, σt, th, sr, R, h⟩, ?_⟩
  rintro n σ H ⟨m, σt, th, sr, R, h⟩
  cases n with
  | zero => exact h.elim
  | succ n =>
    refine ⟨m, σt, th, sr, R, (PnS.of h).imp fun k th1 m1 H1 x R1 h1 => ?_⟩
    cases k with
    | false => exact iteF (h1 m1 H1 σ (Ext.refl _ _) R1 (sr.mono x.pre x.kp))
    | true =>
      refine iteT ⟨fun σ' H' => ∃ m σt th, SR X.K m H' σt σ' ∧ Rel (gc X) m th H' ∧ PnS (gc X) EO m H' (whN tc tb n σt th) D, fun σ' H' w => ⟨n, Nat.lt_succ_self _, w⟩, m1, σt, th1, sr.mono x.pre x.kp, R1, ?_⟩
      exact PnS.turn h1 fun m2 H2 σt2 th2 σ2 x2 R2 q w => ⟨m2, σt2, th2, q, R2, w⟩

/-! ### what is walked -/
abbrev MIt := Nat → TH → Option (Option Yv)
abbrev MI := Sl → TH → Res MIt
def ItR (G : Gc) (m0 : List Addr) (H0 : Hp) (J : MIt) (Jv : L2.It) : Prop := ∀ (i : Nat) (m : List Addr) (th : TH) (H : Hp), Ext m0 H0 m H → Rel G m th H → match J i th with
  | none => True
  | some none => Jv.stop i H
  | some (some y) => Jv.go i H ∧ ∀ x H', Jv.yld i H x H' → Ext m H m H' ∧ Rel G m th H' ∧ YR G.K m H' y x
def tDI (G : Gc) (EO : EOb) (d : MI) : TI := fun σ H R => ∃ m σt th, SR G.K m H σt σ ∧ Rel G m th H ∧ Pn G EO m H (d σt th) fun J th' m' H' => ∀ Jv, ItR G m' H' J Jv → R Jv H'
structure DI (X : Cx) (EO : EOb) (tg iter : Expr) (d : MI) : Prop where
  pi : PI X tg iter (tDI (gc X) EO d)
theorem _root_.L2.PI.of {X : Cx} {tg e : Expr} {t t' : TI} (h : PI X tg e t) (f : ∀ σ H Q, t' σ H Q → t σ H Q) : PI X tg e t' := ⟨fun pins s σ H R I w => h.run pins s σ H R I (f σ H R w)⟩
/-- the items of a list (as it stands at each turn), of a tuple, the signs of a text -/
def itSeq (t : T) (h0 : TH) : Option MIt := match t with
  | .tup ts => some fun i _ => some ((ts[i]?).map Yv.val)
  | .scr ns => some fun i _ => some ((ns[i]?).map fun n => Yv.val (.int n))
  | .str z => some fun i _ => some ((z.cps[i]?).map fun c => Yv.val (.str ⟨#[c]⟩))
  | .ref k => match h0[k]? with
    | some (.lst _) => some fun i h => match h[k]? with
      | some (.lst ts) => some ((ts[i]?).map Yv.val)
      | _ => none
    | _ => none
  | _ => none
def iSeq (e : ME) : MI := fun σ h => (e σ h).bind fun t h1 => match itSeq t h1 with
  | some J => .ok J h1
  | none => .stuck
theorem itl_R {G : Gc} {m0 : List Addr} {H0 : Hp} {k : Nat} {a : Addr} (hm : m0[k]? = some a) : ItR G m0 H0 (fun i h => match h[k]? with
    | some (.lst ts) => some ((ts[i]?).map Yv.val)
    | _ => none) (Itl G.K a) := by
  intro i m th H x R
  dsimp only
  split
  · trivial
  · rename_i e1
    split at e1
    · rename_i ts hk
      obtain ⟨xs, h2, h3⟩ := R.at_ k a _ (pre_get x.pre hm) hk
      refine ⟨xs, .of h2, ?_⟩
      have e2 : ts[i]? = none := by simpa using e1
      rw [← h3.length]
      exact List.getElem?_eq_none_iff.mp e2
    · cases e1
  · rename_i y e1
    split at e1
    · rename_i ts hk
      obtain ⟨xs, h2, h3⟩ := R.at_ k a _ (pre_get x.pre hm) hk
      cases et : ts[i]? with
      | none => rw [et] at e1; simp at e1
      | some t =>
        rw [et] at e1
        have ey : y = .val t := by simpa using e1.symm
        subst ey
        obtain ⟨v, hv, vr⟩ := h3.get et
        refine ⟨⟨xs, v, .of h2, hv⟩, fun x' H' ⟨e, hx⟩ => ?_⟩
        subst e
        have := hx xs (.of h2)
        rw [hv] at this; cases this
        exact ⟨Ext.refl _ _, R, vr⟩
    · cases e1
theorem itt_R {G : Gc} {m0 : List Addr} {H0 : Hp} {ts : List T} {a : Addr} {xs : List V} (h1 : TpS G.K H0 a xs) (h2 : VRs G.K m0 H0 ts xs) : ItR G m0 H0 (fun i _ => some ((ts[i]?).map Yv.val)) (Itt G.K a) := by
  intro i m th H x R
  dsimp only
  have h3 := h2.mono x.pre x.kp
  have h4 := h1.keep x.kp
  split
  · trivial
  · rename_i e1
    have e2 : ts[i]? = none := by simpa using e1
    exact ⟨xs, h4.t, by rw [← h3.length]; exact List.getElem?_eq_none_iff.mp e2⟩
  · rename_i y e1
    cases et : ts[i]? with
    | none => rw [et] at e1; simp at e1
    | some t =>
      rw [et] at e1
      have ey : y = .val t := by simpa using e1.symm
      subst ey
      obtain ⟨v, hv, vr⟩ := h3.get et
      refine ⟨⟨xs, v, h4.t, hv⟩, fun x' H' ⟨e, hx⟩ => ?_⟩
      subst e
      have := hx xs h4.t
      rw [hv] at this; cases this
      exact ⟨Ext.refl _ _, R, vr⟩
theorem its_R {G : Gc} {m0 : List Addr} {H0 : Hp} {z : Str} : ItR G m0 H0 (fun i _ => some ((z.cps[i]?).map fun c => Yv.val (.str ⟨#[c]⟩))) (Its z) := by
  intro i m th H x R
  dsimp only
  split
  · trivial
  · rename_i e1
    have e2 : z.cps[i]? = none := by simpa using e1
    exact Array.getElem?_eq_none_iff.mp e2
  · rename_i y e1
    cases et : z.cps[i]? with
    | none => rw [et] at e1; simp at e1
    | some c =>
      rw [et] at e1
      have ey : y = .val (.str ⟨#[c]⟩) := by simpa using e1.symm
      subst ey
      refine ⟨(Array.getElem?_eq_some_iff.mp et).1, fun x' H' ⟨e, c', hc, hx⟩ => ?_⟩
      subst e hx
      rw [et] at hc; cases hc
      exact ⟨Ext.refl _ _, R, .str _⟩
theorem itc_R {G : Gc} {m0 : List Addr} {H0 : Hp} {ns : List Int} {a : Addr} (h1 : SqS G.K H0 a (ns.map V.int)) : ItR G m0 H0 (fun i _ => some ((ns[i]?).map fun n => Yv.val (.int n))) (Itl G.K a) := by
  intro i m th H x R
  dsimp only
  have h4 := (h1.keep x.kp).l
  split
  · trivial
  · rename_i e1
    have e2 : ns[i]? = none := by simpa using e1
    exact ⟨_, h4, by simpa using e2⟩
  · rename_i y e1
    cases et : ns[i]? with
    | none => rw [et] at e1; simp at e1
    | some n =>
      rw [et] at e1
      have ey : y = .val (.int n) := by simpa using e1.symm
      subst ey
      refine ⟨⟨_, .int n, h4, by simp [et]⟩, fun x' H' ⟨e, hx⟩ => ?_⟩
      subst e
      have := hx _ h4
      simp [et] at this
      subst this
      exact ⟨Ext.refl _ _, R, .int n⟩
end
end TL

/-! T-layer, part F: iterators, for, list comprehensions. -/
namespace TL
open PySem PySem.Spec PyProof.Rows L2
section
variable {X : Cx} {EO : EOb} {pos : Pos} {e tg : Expr} {d : ME}

/-! ### iterators -/
/-- a list, a tuple, a text, the script -/
theorem di_seq (h : DE X EO e d) : DI X EO tg e (iSeq d) := by
  refine ⟨⟨fun pins s σ H R I ⟨m, σt, th, sr, Rl, hq⟩ => ?_⟩⟩
  refine thn (h.pe.run pins s σ H (fun v H1 => ∃ m1 th1 t, Rel (gc X) m1 th1 H1 ∧ VR X.K m1 H1 t v ∧ Pn (gc X) EO m1 H1 (match itSeq t th1 with | some J => .ok J th1 | none => .stuck) fun J _ m' H' => ∀ Jv, ItR (gc X) m' H' J Jv → R Jv H') I
    ⟨m, σt, th, sr, Rl, hq.bind.imp fun t th1 m1 H1 x R1 h1 v vr => ⟨m1, th1, t, R1, vr, h1⟩⟩) fun v s1 ⟨y, H1, I1, r1, m1, th1, t, R1, vr, w⟩ => ?_
  cases vr with
  | non => exact w.elim
  | bl b => exact w.elim
  | int i => exact w.elim
  | str x =>
    have w := Pn.done w R1 (Its x) its_R
    obtain ⟨t, rfl⟩ := r1
    cases ha : x.cps.all (· < 128)
    · exact wpAny_pyIter_wide ha (pi_one (tk := s1.toks) I1 _ (turn_str _ x t "str_iterator" (.inr rfl)) ⟨_, Heap.get?_push_size _ rfl, rfl, rfl⟩ w)
    · exact wpAny_pyIter_ascii ha (pi_one (tk := s1.toks) I1 _ (turn_str _ x t "str_ascii_iterator" (.inl rfl)) ⟨_, Heap.get?_push_size _ rfl, rfl, rfl⟩ w)
  | @tup ts a xs h1 h2 =>
    have w := Pn.done w R1 (Itt X.K a) (itt_R h1 h2)
    cases r1
    obtain ⟨its, rv, p, hz⟩ := I1.tuple h1.t
    exact wpAny_pyIter_tuple (show s1.heap.IsTuple a its.toArray from p) (pi_one (tk := s1.toks) I1 _ (turn_tuple a _) ⟨_, Heap.get?_push_size _ rfl, rfl, rfl⟩ w)
  | @ref n a hm =>
    cases ho : th1[n]? with
    | none => exact (by simp only [itSeq, ho] at w; exact w.elim)
    | some o =>
      cases o with
      | lst ts =>
        simp only [itSeq, ho] at w
        have w := Pn.done w R1 (Itl X.K a) (itl_R hm)
        obtain ⟨xs, h2, h3⟩ := R1.at_ n a _ hm ho
        cases r1
        obtain ⟨its, rv, p, hz⟩ := I1.list (.of h2)
        exact wpAny_pyIter_list p.isList (pi_one (tk := s1.toks) I1 _ (turn_list a _) ⟨_, Heap.get?_push_size _ rfl, rfl, rfl⟩ w)
      | _ => simp only [itSeq, ho] at w; exact w.elim
  | @scr ns a h1 =>
    have w := Pn.done w R1 (Itl X.K a) (itc_R h1)
    cases r1
    obtain ⟨its, rv, p, hz⟩ := I1.list h1.l
    exact wpAny_pyIter_list p.isList (pi_one (tk := s1.toks) I1 _ (turn_list a _) ⟨_, Heap.get?_push_size _ rfl, rfl, rfl⟩ w)
def iZip (as : ML) : MI := fun σ h => (as σ h).bind fun ts h1 => match ts with
  | [.tup xs, .tup ys] => .ok (fun i _ => some (match xs[i]?, ys[i]? with
    | some x, some y => some (.parts [x, y])
    | _, _ => none)) h1
  | [.ref j, .ref k] => match h1[j]?, h1[k]? with
    | some (.lst _), some (.lst _) => .ok (fun i h => match h[j]?, h[k]? with
      | some (.lst xs), some (.lst ys) => some (match xs[i]?, ys[i]? with
        | some x, some y => some (.parts [x, y])
        | _, _ => none)
      | _, _ => none) h1
    | _, _ => .stuck
  | _ => .stuck
/-- a new row laid -/
theorem parts_new {G : Gc} {m : List Addr} {th : TH} {H : Hp} {p : Addr} {xs : List V} {ts : List T} (R : Rel G m th H) (hp : H p = none) (r : VRs G.K m H ts xs) :
    Ext m H m (upd H p (.tup xs)) ∧ Rel G m th (upd H p (.tup xs)) ∧ YR G.K m (upd H p (.tup xs)) (.parts ts) (.ref p) := by
  obtain ⟨R2, x⟩ := R.aside hp (.tup xs)
  exact ⟨x, R2, p, xs, rfl, .inl (.inl upd_same), r.mono x.pre x.kp⟩
theorem itzT_R {G : Gc} {m0 : List Addr} {H0 : Hp} {ts us : List T} {a b : Addr} {xs ys : List V} (h1 : TpS G.K H0 a xs) (h2 : VRs G.K m0 H0 ts xs) (k1 : TpS G.K H0 b ys) (k2 : VRs G.K m0 H0 us ys) :
    ItR G m0 H0 (fun i _ => some (match ts[i]?, us[i]? with
    | some x, some y => some (.parts [x, y])
    | _, _ => none)) (RZ.ItzT G.K a b) := by
  intro i m th H x R
  dsimp only
  have h3 := h2.mono x.pre x.kp
  have h4 := h1.keep x.kp
  have k3 := k2.mono x.pre x.kp
  have k4 := k1.keep x.kp
  cases e1 : ts[i]? with
  | none => exact ⟨xs, ys, h4.t, k4.t, .inl (by rw [← h3.length]; exact List.getElem?_eq_none_iff.mp e1)⟩
  | some t =>
    cases e2 : us[i]? with
    | none => exact ⟨xs, ys, h4.t, k4.t, .inr (by rw [← k3.length]; exact List.getElem?_eq_none_iff.mp e2)⟩
    | some u =>
      obtain ⟨v, hv, vr⟩ := h3.get e1
      obtain ⟨v', hv', vr'⟩ := k3.get e2
      refine ⟨⟨xs, ys, v, v', h4.t, k4.t, hv, hv'⟩, ?_⟩
      rintro x' H' ⟨p, z, z', e, hp, eH, hz, hz'⟩
      subst e eH
      have q := hz xs h4.t
      rw [hv] at q; cases q
      have q := hz' ys k4.t
      rw [hv'] at q; cases q
      exact parts_new R hp (.cons vr (.cons vr' .nil))
theorem itzL_R {G : Gc} {m0 : List Addr} {H0 : Hp} {j k : Nat} {a b : Addr} (h1 : m0[j]? = some a) (k1 : m0[k]? = some b) :
    ItR G m0 H0 (fun i h => match h[j]?, h[k]? with
      | some (.lst xs), some (.lst ys) => some (match xs[i]?, ys[i]? with
        | some x, some y => some (.parts [x, y])
        | _, _ => none)
      | _, _ => none) (Itz G.K a b) := by
  intro i m th H x R
  dsimp only
  split
  · trivial
  · rename_i e1
    split at e1
    · rename_i ts us ht hu
      obtain ⟨xs, h2, h3⟩ := R.at_ j a _ (pre_get x.pre h1) ht
      obtain ⟨ys, k2, k3⟩ := R.at_ k b _ (pre_get x.pre k1) hu
      refine ⟨xs, ys, .of h2, .of k2, ?_⟩
      have e1 := Option.some.inj e1
      cases e2 : ts[i]? with
      | none => exact .inl (by rw [← h3.length]; exact List.getElem?_eq_none_iff.mp e2)
      | some t =>
        cases e3 : us[i]? with
        | none => exact .inr (by rw [← k3.length]; exact List.getElem?_eq_none_iff.mp e3)
        | some u => rw [e2, e3] at e1; cases e1
    · cases e1
  · rename_i y e1
    split at e1
    · rename_i ts us ht hu
      obtain ⟨xs, h2, h3⟩ := R.at_ j a _ (pre_get x.pre h1) ht
      obtain ⟨ys, k2, k3⟩ := R.at_ k b _ (pre_get x.pre k1) hu
      have e1 := Option.some.inj e1
      cases e2 : ts[i]? with
      | none => rw [e2] at e1; cases e1
      | some t =>
        cases e3 : us[i]? with
        | none => rw [e2, e3] at e1; cases e1
        | some u =>
          rw [e2, e3] at e1
          have e1 := Option.some.inj e1
          subst e1
          obtain ⟨v, hv, vr⟩ := h3.get e2
          obtain ⟨v', hv', vr'⟩ := k3.get e3
          refine ⟨⟨xs, ys, v, v', .of h2, .of k2, hv, hv'⟩, ?_⟩
          rintro x' H' ⟨p, z, z', e, hp, eH, hz, hz'⟩
          subst e eH
          have q := hz xs (.of h2)
          rw [hv] at q; cases q
          have q := hz' ys (.of k2)
          rw [hv'] at q; cases q
          exact parts_new R hp (.cons vr (.cons vr' .nil))
    · cases e1
theorem di_zip {e e2 : Expr} {da : ML} {p tpos : Pos} {elts : List Expr} {kk : Nat} (hm : X.mg "zip" = none) (ha : DA X EO [e, e2] da) (hg : Gl X "zip" := by rfl)
    (hs : starEach [e, e2] X.env = (false, eval e X.env) :: starEach [e2] X.env := by rfl) (hpl : (backTo pos (starEach [e2] X.env)).any (·.1) = false := by rfl) :
    DI X EO (.Tuple elts kk tpos) (.Call (.Name "zip" p) [e, e2] [] pos) (iZip da) := by
  refine ⟨(RZ.pi_zipA hg hm ha.pa hs hpl).of fun σ H Q ⟨m, σt, th, sr, R, h⟩ => ⟨m, σt, th, sr, R, h.bind.imp fun ts th1 m1 H1 x R1 h1 vs vrs => ?_⟩⟩
  split at h1
  · cases vrs with
    | cons r1 rr =>
    cases rr with
    | cons r2 rr =>
    cases rr
    cases r1 with
    | tup a1 a2 =>
    cases r2 with
    | tup b1 b2 => exact ⟨_, _, _, _, rfl, .inr ⟨a1.t, b1.t, Pn.done h1 R1 _ (itzT_R a1 a2 b1 b2)⟩⟩
  · rename_i j k
    split at h1
    · rename_i ts us ht hu
      cases vrs with
      | cons r1 rr =>
      cases rr with
      | cons r2 rr =>
      cases rr
      cases r1 with
      | ref a1 =>
      cases r2 with
      | ref b1 =>
        obtain ⟨xs, h2, h3⟩ := R1.at_ j _ _ a1 ht
        obtain ⟨ys, k2, k3⟩ := R1.at_ k _ _ b1 hu
        exact ⟨_, _, _, _, rfl, .inl ⟨.of h2, .of k2, Pn.done h1 R1 _ (itzL_R a1 b1)⟩⟩
    · exact h1.elim
  · exact h1.elim
def iEnm (as : ML) : MI := fun σ h => (as σ h).bind fun ts h1 => match ts with
  | [.ref j] => match h1[j]? with
    | some (.lst _) => .ok (fun i h => match h[j]? with
      | some (.lst xs) => some (match xs[i]? with
        | some x => some (.parts [.int (i : Nat), x])
        | none => none)
      | _ => none) h1
    | _ => .stuck
  | _ => .stuck
theorem ite_R {G : Gc} {m0 : List Addr} {H0 : Hp} {j : Nat} {a : Addr} (h1 : m0[j]? = some a) :
    ItR G m0 H0 (fun i h => match h[j]? with
      | some (.lst xs) => some (match xs[i]? with
        | some x => some (.parts [.int (i : Nat), x])
        | none => none)
      | _ => none) (Ite G.K a) := by
  intro i m th H x R
  dsimp only
  split
  · trivial
  · rename_i e1
    split at e1
    · rename_i ts ht
      obtain ⟨xs, h2, h3⟩ := R.at_ j a _ (pre_get x.pre h1) ht
      refine ⟨xs, .of h2, ?_⟩
      have e1 := Option.some.inj e1
      cases e2 : ts[i]? with
      | none => rw [← h3.length]; exact List.getElem?_eq_none_iff.mp e2
      | some t => rw [e2] at e1; cases e1
    · cases e1
  · rename_i y e1
    split at e1
    · rename_i ts ht
      obtain ⟨xs, h2, h3⟩ := R.at_ j a _ (pre_get x.pre h1) ht
      have e1 := Option.some.inj e1
      cases e2 : ts[i]? with
      | none => rw [e2] at e1; cases e1
      | some t =>
        rw [e2] at e1
        have e1 := Option.some.inj e1
        subst e1
        obtain ⟨v, hv, vr⟩ := h3.get e2
        refine ⟨⟨xs, v, .of h2, hv⟩, ?_⟩
        rintro x' H' ⟨p, z, e, hp, eH, hz⟩
        subst e eH
        have q := hz xs (.of h2)
        rw [hv] at q; cases q
        exact parts_new R hp (.cons (.int _) (.cons vr .nil))
    · cases e1
theorem di_enum {da : ML} {p tpos : Pos} {elts : List Expr} {kk : Nat} (hm : X.mg "enumerate" = none) (ha : DA X EO [e] da) (hg : Gl X "enumerate" := by rfl) (hs : starEach [e] X.env = [(false, eval e X.env)] := by rfl) :
    DI X EO (.Tuple elts kk tpos) (.Call (.Name "enumerate" p) [e] [] pos) (iEnm da) := by
  refine ⟨(pi_enum hg hm ha.pa hs).of fun σ H Q ⟨m, σt, th, sr, R, h⟩ => ⟨m, σt, th, sr, R, h.bind.imp fun ts th1 m1 H1 x R1 h1 vs vrs => ?_⟩⟩
  split at h1
  · rename_i j
    split at h1
    · rename_i ts ht
      cases vrs with
      | cons r1 rr =>
      cases rr
      cases r1 with
      | ref a1 =>
        obtain ⟨xs, h2, h3⟩ := R1.at_ j _ _ a1 ht
        exact ⟨_, _, rfl, .of h2, Pn.done h1 R1 _ (ite_R a1)⟩
    · exact h1.elim
  · exact h1.elim
/-- range -/
def itRng (lo : Int) (n : Nat) : MIt := fun i _ => some (if i < n then some (.val (.int (lo + (i : Nat)))) else none)
def iR1 (as : ML) : MI := fun σ h => (as σ h).bind fun ts h1 => match ts with
  | [.int j] => if -(2 ^ 62) ≤ j ∧ j < 2 ^ 62 then .ok (itRng 0 j.toNat) h1 else .stuck
  | _ => .stuck
def iR2 (as : ML) : MI := fun σ h => (as σ h).bind fun ts h1 => match ts with
  | [.int i, .int j] => if -(2 ^ 62) ≤ i ∧ i < 2 ^ 62 ∧ -(2 ^ 62) ≤ j ∧ j < 2 ^ 62 then .ok (itRng i (j - i).toNat) h1 else .stuck
  | _ => .stuck
theorem itr_R {G : Gc} {m0 : List Addr} {H0 : Hp} {lo : Int} {n : Nat} : ItR G m0 H0 (itRng lo n) (Itr lo n) := by
  intro i m th H x R
  unfold itRng
  by_cases h : i < n
  · rw [if_pos h]
    refine ⟨h, ?_⟩
    rintro x' H' ⟨e, e'⟩
    subst e e'
    exact ⟨Ext.refl _ _, R, .int _⟩
  · rw [if_neg h]
    exact Nat.le_of_not_lt h
theorem di_rng1 {da : ML} {p : Pos} (hm : X.mg "range" = none) (ha : DA X EO [e] da) (hg : Gl X "range" := by rfl) (hs : starEach [e] X.env = [(false, eval e X.env)] := by rfl) : DI X EO tg (.Call (.Name "range" p) [e] [] pos) (iR1 da) := by
  refine ⟨(pi_range1 hg hm ha.pa hs).of fun σ H Q ⟨m, σt, th, sr, R, h⟩ => ⟨m, σt, th, sr, R, h.bind.imp fun ts th1 m1 H1 x R1 h1 vs vrs => ?_⟩⟩
  split at h1
  · split at h1
    · rename_i hj
      cases vrs with
      | cons r1 rr =>
      cases rr
      cases r1
      exact ⟨_, rfl, hj.1, hj.2, Pn.done h1 R1 _ itr_R⟩
    · exact h1.elim
  · exact h1.elim
theorem di_rng2 {e2 : Expr} {da : ML} {p : Pos} (hm : X.mg "range" = none) (ha : DA X EO [e, e2] da) (hg : Gl X "range" := by rfl) (hs : starEach [e, e2] X.env = [(false, eval e X.env), (false, eval e2 X.env)] := by rfl) (hs2 : starEach [e2] X.env = [(false, eval e2 X.env)] := by rfl) : DI X EO tg (.Call (.Name "range" p) [e, e2] [] pos) (iR2 da) := by
  refine ⟨(pi_range2 hg hm ha.pa hs hs2).of fun σ H Q ⟨m, σt, th, sr, R, h⟩ => ⟨m, σt, th, sr, R, h.bind.imp fun ts th1 m1 H1 x R1 h1 vs vrs => ?_⟩⟩
  split at h1
  · split at h1
    · rename_i hj
      cases vrs with
      | cons r1 rr =>
      cases rr with
      | cons r2 rr =>
      cases rr
      cases r1
      cases r2
      exact ⟨_, _, rfl, hj, Pn.done h1 R1 _ itr_R⟩
    · exact h1.elim
  · exact h1.elim

/-! ### for -/
def forN (J : MIt) (g : MG) (b : MS) : Nat → Nat → Sl → TH → SRes
  | 0, _, _, _ => .stuck
  | n + 1, i, σ, h => match J i h with
    | none => .stuck
    | some none => .nx σ h
    | some (some y) => SRes.of (g y σ h) fun σ1 h1 => match b σ1 h1 with
      | .nx σ2 h2 => forN J g b n (i + 1) σ2 h2
      | .ct σ2 h2 => forN J g b n (i + 1) σ2 h2
      | .bk σ2 h2 => .nx σ2 h2
      | r => r
def sFor (it : MI) (g : MG) (b : MS) : MS := fun σ h => SRes.of (it σ h) fun J h1 => forN J g b FU 0 σ h1
theorem ds_for {iter : Expr} {body : List Stmt} {di : MI} {vs : List Nat} {g : MG} {db : MS} (hp : PassesOwn (model X.prog X.w) X.A X.env X.xe) (hc : X.calm = true) (hi : DI X EO tg iter di) (hg : DG X EO tg vs g) (hb : DSs X EO body db)
    (hs : ∀ x, foldedSetIterable iter X.env x = pure x := by intro _; rfl) : DS X EO (.For tg iter body [] pos) (sFor di g db) := by
  refine ⟨(ps_for hp hc hi.pi hg.pg hb.pss hs).of fun D σ H ⟨m, σt, th, sr, R, h⟩ => ⟨m, σt, th, sr, R, (PnS.of h).imp fun J th1 m1 H1 x R1 h1 Jv hJ => ?_⟩⟩
  refine ⟨fun i n σ H => ∃ m σt th, Ext m1 H1 m H ∧ SR X.K m H σt σ ∧ Rel (gc X) m th H ∧ PnS (gc X) EO m H (forN J g db n i σt th) D, ⟨FU, m1, σt, th1, Ext.refl _ _, sr.mono x.pre x.kp, R1, h1⟩, ?_⟩
  rintro i n σ H ⟨m2, σt2, th2, x2, sr2, R2, h2⟩
  cases n with
  | zero => exact h2.elim
  | succ n =>
    have q := hJ i m2 th2 H x2 R2
    unfold forN at h2
    split at h2
    · exact h2.elim
    · rename_i e1
      rw [e1] at q
      exact .inl ⟨q, h2 m2 H σ (Ext.refl _ _) R2 sr2⟩
    · rename_i y e1
      rw [e1] at q
      refine .inr ⟨q.1, fun σ' H' => ∃ m σt th, Ext m1 H1 m H' ∧ SR X.K m H' σt σ' ∧ Rel (gc X) m th H' ∧ PnS (gc X) EO m H' (forN J g db n (i + 1) σt th) D, fun σ' H' w => ⟨n, Nat.lt_succ_self _, w⟩, fun x' H' hy => ?_⟩
      obtain ⟨x3, R3, yr⟩ := q.2 x' H' hy
      refine ⟨m2, σt2, th2, y, sr2.mono x3.pre x3.kp, R3, yr, (PnS.of (PnS.ext h2 x3)).imp fun σt4 th4 m4 H4 x4 R4 h4 σ4 sr4 _ => ⟨m4, σt4, th4, sr4, R4, ?_⟩⟩
      exact PnS.turn h4 fun m5 H5 σt5 th5 σ5 x5 R5 sr5 w => ⟨m5, σt5, th5, ((x2.trans x3).trans x4).trans x5, sr5, R5, w⟩

/-! ### list comprehensions -/
theorem Ext.own {m m1 : List Addr} {H H1 : Hp} {p : Addr} (x : Ext m1 H1 m H) (hp : H1 p = none) (u : HO) : Ext m1 H1 m (upd H p u) := by
  have ne : ∀ {a : Addr} {o : HO}, H1 a = some o → a ≠ p := fun h e => by rw [e, hp] at h; cases h
  refine ⟨x.pre, x.new, fun a o h h2 => ?_, fun a o xs h => ?_, fun a o xs h => ?_⟩
  · rw [upd_ne (ne h)]; exact x.fr a o h h2
  · rw [upd_ne (ne h)]; exact x.kp.tup a o xs h
  · rw [upd_ne (ne h)]; exact x.kp.scr a o xs h
/-- an object that is none of ours changes -/
theorem Rel.other {G : Gc} {m : List Addr} {th : TH} {H : Hp} {p : Addr} {xs : List V} (R : Rel G m th H) (hp : p ∉ m) (hl : H p = Option.some (.lst xs)) (u : HO) : Rel G m th (upd H p u) ∧ Keep H (upd H p u) := by
  have k : Keep H (upd H p u) := keep_upd (fun ob ys e => by rw [hl] at e; cases e) (fun ob ys e => by rw [hl] at e; cases e) u
  exact ⟨⟨R.len, R.nd, fun j b q hb hq => (R.at_ j b q hb hq).mono (List.prefix_refl _) k (upd_ne fun e => hp (e ▸ List.mem_of_getElem? hb))⟩, k⟩
theorem Rel.adopt {G : Gc} {m : List Addr} {th : TH} {H : Hp} {p : Addr} {xs : List V} {ts : List T} (R : Rel G m th H) (hp : p ∉ m) (hl : H p = Option.some (.lst xs)) (r : VRs G.K m H ts xs) : Rel G (m ++ [p]) (th ++ [.lst ts]) H := by
  refine ⟨by simp [R.len], ?_, fun j b q hb hq => ?_⟩
  · rw [List.nodup_append]
    refine ⟨R.nd, by simp, fun b hb c hc => ?_⟩
    have : c = p := by simpa using hc
    subst this
    exact fun e => hp (e ▸ hb)
  · by_cases hj : j < m.length
    · rw [List.getElem?_append_left hj] at hb
      rw [List.getElem?_append_left (by rw [← R.len]; exact hj)] at hq
      exact (R.at_ j b q hb hq).mono (List.prefix_append _ _) (Keep.refl _) rfl
    · rw [List.getElem?_append_right (by omega)] at hb
      rw [List.getElem?_append_right (by rw [← R.len]; omega)] at hq
      have e0 : j - m.length = 0 := by
        by_cases h : j - m.length = 0
        · exact h
        · rw [List.getElem?_eq_none (by simp; omega)] at hb; cases hb
      rw [e0] at hb
      have e1 : j - th.length = 0 := by rw [← R.len]; exact e0
      rw [e1] at hq
      simp only [List.getElem?_cons_zero, Option.some.injEq] at hb hq
      subst hb hq
      exact ⟨xs, hl, r.mono (List.prefix_append _ _) (Keep.refl _)⟩
theorem Pn.bind0 {α β : Type} {G : Gc} {m : List Addr} {H : Hp} {r : Res α} {f : α → TH → Res β} {Φ : β → TH → List Addr → Hp → Prop} (h : Pn G EO m H (r.bind f) Φ) : Pn G EO m H r fun t th _ _ => Pn G EO m H (f t th) Φ := by
  cases r with
  | ok t th => exact fun _ _ _ _ => h
  | exc c fs th => exact h
  | stuck => exact h
structure DTs (X : Cx) (EO : EOb) (ifs : List Expr) (d : MB) : Prop where
  pts : PTs X ifs (tDT (gc X) EO d)
theorem _root_.L2.PTs.of {X : Cx} {e : List Expr} {t t' : TT} (h : PTs X e t) (f : ∀ σ H Q, t' σ H Q → t σ H Q) : PTs X e t' := ⟨fun pins s σ H Q I w => h.run pins s σ H Q I (f σ H Q w)⟩
def mYes : MB := fun _ h => .ok true h
theorem dts_nil : DTs X EO [] mYes := ⟨pts_nil.of fun σ H Q ⟨m, σt, th, sr, R, h⟩ => Pn.done h R⟩
theorem dts_one {c : Expr} {t : MB} (h : DT X EO c t) : DTs X EO [c] t := ⟨pts_one h.pt⟩
def lcN (J : MIt) (g : MG) (t : MB) (e : ME) (σ0 : Sl) : Nat → Nat → TH → List T → Res (List T)
  | 0, _, _, _ => .stuck
  | n + 1, i, h, acc => match J i h with
    | none => .stuck
    | some none => .ok acc h
    | some (some y) => (g y σ0 h).bind fun σ1 h1 => (t σ1 h1).bind fun c h2 => if c = true then (e σ1 h2).bind fun z h3 => if acc.length < sizeLine then lcN J g t e σ0 n (i + 1) h3 (acc ++ [z]) else .stuck else lcN J g t e σ0 n (i + 1) h2 acc
def eLc (it : MI) (g : MG) (t : MB) (e : ME) (vs : List Nat) : ME := fun σ h => (it σ h).bind fun J h1 => (lcN J g t e (wipeT σ vs) FU 0 h1 []).bind fun ts h2 => .ok (.ref h2.length) (h2 ++ [.lst ts])
variable {di : MI} {vs : List Nat} {g : MG} {t : MB} {de : ME}
theorem tLc_of (σ : L2.St) (H : Hp) (Q : VK) (w : tD (gc X) EO (eLc di g t de vs) σ H Q) : tLc (tDI (gc X) EO di) (tDG (gc X) EO vs g) (tDT (gc X) EO t) (tD (gc X) EO de) vs σ H Q := by
  obtain ⟨m, σt, th, sr, R, h⟩ := w
  refine ⟨m, σt, th, sr, R, h.bind.imp fun J th1 m1 H1 x R1 h1 Jv hJ D hD => ?_⟩
  have sr1 := (sr.mono x.pre x.kp).wipe vs
  have pf : D ∉ m1 := R1.fresh hD
  refine ⟨fun i n H => ∃ m th acc xs, Ext m1 H1 m H ∧ Rel (gc X) m th H ∧ D ∉ m ∧ H D = some (.lst xs) ∧ VRs X.K m H acc xs ∧ Pn (gc X) EO m1 H1 (lcN J g t de (wipeT σt vs) n i th acc) fun ts h2 _ _ => Pn (gc X) EO m1 H1 (.ok (.ref h2.length) (h2 ++ [.lst ts])) fun t _ m' H' => ∀ v, VR X.K m' H' t v → Q v H',
    ⟨FU, m1, th1, [], [], (Ext.refl _ _).own hD _, (R1.aside hD _).1, pf, upd_same, .nil, h1.bind0⟩, ?_⟩
  rintro i n H ⟨m2, th2, acc, xs, x2, R2, pf2, hD2, va, h2⟩
  cases n with
  | zero => exact h2.elim
  | succ n =>
    have q := hJ i m2 th2 H x2 R2
    unfold lcN at h2
    split at h2
    · exact h2.elim
    · rename_i e1
      rw [e1] at q
      refine .inl ⟨q, ?_⟩
      have h3 := h2 m2 H x2 R2
      have x4 : Ext m1 H1 (m2 ++ [D]) H := by
        refine ⟨x2.pre.trans (List.prefix_append _ _), fun a ha hn => ?_, x2.fr, x2.kp⟩
        rcases List.mem_append.mp ha with z | z
        · exact x2.new a z hn
        · have : a = D := by simpa using z
          rw [this]; exact hD
      exact h3 _ H x4 (R2.adopt pf2 hD2 va) _ (.ref (by rw [← R2.len]; exact push_at))
    · rename_i y e1
      rw [e1] at q
      refine .inr ⟨q.1, _, fun H' w => ⟨n, Nat.lt_succ_self _, w⟩, fun x' H' hy => ?_⟩
      obtain ⟨x3, R3, yr⟩ := q.2 x' H' hy
      have x13 := x2.trans x3
      refine ⟨m2, wipeT σt vs, th2, y, sr1.mono x13.pre x13.kp, R3, yr, (Pn.ext h2.bind0 x13).imp fun σt4 th4 m4 H4 x4 R4 h4 σ4 sr4 hw => ⟨by rw [hw]; exact wipe_idem _ _, m4, σt4, th4, sr4, R4, ?_⟩⟩
      have x14 := x13.trans x4
      have nD : ∀ {m' H''}, Ext m2 H' m' H'' → D ∉ m' ∧ H'' D = some (.lst xs) := fun {m' H''} y => by
        have e := x3.fr D _ hD2 pf2
        refine ⟨fun z => ?_, y.fr D _ e pf2⟩
        rw [y.new D z pf2] at e; cases e
      refine (Pn.ext h4.bind0 x14).imp fun b th5 m5 H5 x5 R5 h5 => ?_
      have x15 := x14.trans x5
      cases b with
      | false =>
        obtain ⟨n1, n2⟩ := nD (x4.trans x5)
        exact iteF ⟨m5, th5, acc, xs, x15, R5, n1, n2, ((va.mono x3.pre x3.kp).mono x4.pre x4.kp).mono x5.pre x5.kp, h5⟩
      | true =>
        refine iteT ⟨m5, σt4, th5, sr4.mono x5.pre x5.kp, R5, (Pn.ext (Pn.bind0 h5) x15).imp fun z th6 m6 H6 x6 R6 h6 v vr => ?_⟩
        obtain ⟨n1, n2⟩ := nD ((x4.trans x5).trans x6)
        split at h6
        · rename_i hl
          have va6 := (((va.mono x3.pre x3.kp).mono x4.pre x4.kp).mono x5.pre x5.kp).mono x6.pre x6.kp
          obtain ⟨R7, k7⟩ := R6.other n1 n2 (.lst (xs ++ [v]))
          refine ⟨xs, n2, by rw [← va.length]; exact hl, m6, th6, acc ++ [z], xs ++ [v], (x15.trans x6).own hD _, R7, n1, upd_same, (va6.append (.cons vr .nil)).mono (List.prefix_refl _) k7, h6⟩
        · exact h6.elim
abbrev blkX (X : Cx) (s : Shared) (H : Hp) (scope : Scope) (cl : List (Str × Addr)) (C : Addr) (fp : List Addr) : Cx := X.blk s H scope (compEnvC scope cl C X.env) fp
theorem de_lc {elt iter : Expr} {ifs : List Expr} {scope : Scope} {own : List (Str × Nat)} (hc : X.calm = true) (hN : X.N.Nodup) (ok : BlkOk X.N X.env.scope scope own) (hi : DI X EO tg iter di)
    (hg : ∀ s H C cl fp, DG (blkX X s H scope cl C fp) EO tg (own.map (·.2)) g) (ht : ∀ s H C cl fp, DTs (blkX X s H scope cl C fp) EO ifs t) (he : ∀ s H C cl fp, DE (blkX X s H scope cl C fp) EO elt de)
    (hs : ∀ x, foldedSetIterable iter X.env x = pure x := by intro _; rfl) : DE X EO (.ListComp elt [⟨tg, iter, ifs, 0⟩] scope pos) (eLc di g t de (own.map (·.2))) :=
  ⟨(pe_lc (g := tDG (gc X) EO (own.map (·.2)) g) (tt := tDT (gc X) EO t) (te := tD (gc X) EO de) hc hN hi.pi ok (fun s H C cl fp => (hg s H C cl fp).pg) (fun s H C cl fp => (ht s H C cl fp).pts) (fun s H C cl fp => (he s H C cl fp).pe) hs).of tLc_of⟩
/-- name = [..] on one line -/
theorem ds_setLc {i : Nat} {y : Str} {py cpos spos : Pos} {elt iter : Expr} {ifs : List Expr} {scope : Scope} {own : List (Str × Nat)} (hc : X.calm = true) (hN : X.N.Nodup) (ok : BlkOk X.N X.env.scope scope own) (hi : DI X EO tg iter di)
    (hg : ∀ s H C cl fp, DG (blkX X s H scope cl C fp) EO tg (own.map (·.2)) g) (ht : ∀ s H C cl fp, DTs (blkX X s H scope cl C fp) EO ifs t) (he : ∀ s H C cl fp, DE (blkX X s H scope cl C fp) EO elt de)
    (hsw : swapsWith (.ListComp elt [⟨tg, iter, ifs, 0⟩] scope cpos) (some (.Name y py)) spos.line X.env = pure true) (hy : X.N[i]? = some y := by rfl) (hyl : X.env.scope.names.lookup y = some .local := by rfl)
    (hs : ∀ x, foldedSetIterable iter X.env x = pure x := by intro _; rfl) : DS X EO (.Assign [.Name y py] (.ListComp elt [⟨tg, iter, ifs, 0⟩] scope cpos) spos) (sSet i (eLc di g t de (own.map (·.2)))) := by
  refine ⟨(ps_setLc (g := tDG (gc X) EO (own.map (·.2)) g) (tt := tDT (gc X) EO t) (te := tD (gc X) EO de) hc hN hy hyl hsw hi.pi ok (fun s H C cl fp => (hg s H C cl fp).pg) (fun s H C cl fp => (ht s H C cl fp).pts) (fun s H C cl fp => (he s H C cl fp).pe) hs).of fun D σ H ⟨m, σt, th, sr, R, h⟩ => ?_⟩
  refine tLc_of σ H _ ⟨m, σt, th, sr, R, (PnS.of h).imp fun t th1 m1 H1 x R1 h1 v vr => ?_⟩
  exact h1 m1 H1 _ (Ext.refl _ _) R1 ((sr.mono x.pre x.kp).set i vr)
end
end TL

/-! T-layer, part G: methods of built-ins, defs. -/
namespace TL
open PySem PySem.Spec PyProof.Rows L2
section
variable {X : Cx} {EO : EOb} {pos : Pos} {e tg : Expr} {d : ME}

/-! ### methods -/
abbrev Mt := T → List T → TH → Res T
def rM (G : Gc) (EO : EOb) (f : Mt) : V → List V → Hp → VK → Prop := fun x xs H Q => ∃ m th t ts, Rel G m th H ∧ VR G.K m H t x ∧ VRs G.K m H ts xs ∧ WT G EO m H (f t ts th) Q
/-- which type a receiver is of -/
def rcv (t : T) (h : TH) : String := match t with
  | .str _ => "str"
  | .tup _ => "tuple"
  | .ref k => match h[k]? with
    | some (.lst _) => "list"
    | some (.dic _) => "dict"
    | some (.dit _) => "dict"
    | some (.lck _) => "dict"
    | some (.lct _) => "dict"
    | _ => ""
  | _ => ""
/-- a method by its owner -/
structure MtF (X : Cx) (EO : EOb) (T : String) (name : Str) (f : Mt) : Prop where
  run : ∃ id : String, PlainAttrs T ∧ Slot T name id ∧ typeOf (.builtin id) = pure (.type "method_descriptor") ∧ MtR X id (rM (gc X) EO f)
abbrev MtT := String → Option Mt
def MtsF (X : Cx) (EO : EOb) (name : Str) (ms : MtT) : Prop := ∀ T f, ms T = some f → MtF X EO T name f
def eMth (ms : MtT) (o : ME) (as : ML) : ME := fun σ h => (o σ h).bind fun t h1 => match ms (rcv t h1) with
  | some f => (as σ h1).bind fun ts h2 => f t ts h2
  | none => .stuck
theorem exd_at {pins : List (Addr × Obj)} {σ : L2.St} {H : Hp} {s : Shared} {a : Addr} (I : Inv X pins σ H s) (h : (∃ kvs, H a = some (.dK kvs)) ∨ (∃ od kvs, H a = some (.frz od (.dK kvs))) ∨ (∃ o, H a = some (HOd a o) ∧ o.ExactDict) ∨ ∃ od o, H a = some (.frz od (HOd a o)) ∧ o.ExactDict) :
    ∃ o, s.heap.get? a = some o ∧ o.ExactDict := by
  rcases h with ⟨kvs, hk⟩ | ⟨od, kvs, hk⟩ | ⟨o, hk, ex⟩ | ⟨od, o, hk, ex⟩
  · obtain ⟨_, _, _, _, o, _, _, e, ex, _⟩ := I.hok a _ hk
    exact ⟨o, e, ex⟩
  · obtain ⟨_, _, _, _, _, o, _, _, e, ex, _⟩ := (show _ ∧ ObjOk X.prog X.w H s.heap a (.dK kvs) from I.hok a _ hk)
    exact ⟨o, e, ex⟩
  · exact ⟨o, (I.hok a _ hk).1, ex⟩
  · obtain ⟨_, e⟩ := (show _ ∧ ObjOk X.prog X.w H s.heap a (HOd a o) from I.hok a _ hk)
    exact ⟨o, e.1, ex⟩
theorem rcv_is {pins : List (Addr × Obj)} {σ : L2.St} {H : Hp} {s : Shared} {m : List Addr} {th : TH} {t : T} {x : V} {v : Value} {O : String} (I : Inv X pins σ H s) (R : Rel (gc X) m th H) (vr : VR X.K m H t x) (r : RelV x v) (e : rcv t th = O) (hO : O ≠ "") :
    s.TypeIs v O ∧ ∀ a, v = .ref a → ∃ ob, s.heap.get? a = some ob ∧ ob.dict = none := by
  subst e
  cases vr with
  | non => exact absurd rfl hO
  | bl _ => exact absurd rfl hO
  | int _ => exact absurd rfl hO
  | scr _ => exact absurd rfl hO
  | str x =>
    obtain ⟨t, rfl⟩ := r
    exact ⟨typeIs_str s x t, fun _ e => nomatch e⟩
  | @tup ts a xs h1 h2 =>
    cases r
    rcases h1 with ⟨o, h, hd⟩ | ⟨o, its, n, hk, hc, hd, _⟩
    · obtain ⟨q1, z, its, _, o', e', hc, _⟩ := (show s.heap.get? a = some o ∧ ObjOk X.prog X.w H s.heap a (.tup xs) from I.hok _ _ h)
      rw [q1] at e'; cases e'
      refine ⟨⟨o, q1, hc⟩, fun b e => ?_⟩
      cases e
      exact ⟨o, q1, hd⟩
    · refine ⟨⟨o, I.kIn _ o hk, hc⟩, fun a e => ?_⟩
      cases e
      exact ⟨o, I.kIn _ o hk, hd⟩
  | @ref n a hm =>
    cases r
    have key : ∀ {o : Obj} {T : String}, s.heap.get? a = some o → o.cls = .type T → o.dict = none → s.TypeIs (.ref a) T ∧ ∀ b, Value.ref a = .ref b → ∃ ob, s.heap.get? b = some ob ∧ ob.dict = none :=
      fun {o T} e c dd => ⟨⟨o, e, c⟩, fun b q => by cases q; exact ⟨o, e, dd⟩⟩
    cases ho : th[n]? with
    | none => simp only [rcv, ho] at hO; exact absurd rfl hO
    | some o =>
      have q := R.at_ n a o hm ho
      have dct : ∀ {O : String}, ((∃ kvs, H a = some (.dK kvs)) ∨ (∃ od kvs, H a = some (.frz od (.dK kvs))) ∨ (∃ o, H a = some (HOd a o) ∧ o.ExactDict) ∨ ∃ od o, H a = some (.frz od (HOd a o)) ∧ o.ExactDict) → O = "dict" →
          s.TypeIs (.ref a) O ∧ ∀ b, Value.ref a = .ref b → ∃ ob, s.heap.get? b = some ob ∧ ob.dict = none := by
        intro O h eO
        subst eO
        obtain ⟨o, e, ex⟩ := exd_at I h
        exact key e ex.1 ex.2.1
      cases o with
      | lst ts =>
        obtain ⟨xs, h2, h3⟩ := q
        obtain ⟨its, rv, p, hz⟩ := I.list (.of h2)
        obtain ⟨o, n', e, c, hd, _⟩ := id p
        simp only [rcv, ho]
        exact ⟨p.isList.typeIs, fun b q => by cases q; exact ⟨o, e, hd⟩⟩
      | dic kvs =>
        obtain ⟨xs, h2, h3⟩ := q
        exact dct (.inl ⟨_, h2⟩) (by simp only [rcv, ho])
      | dit kvs =>
        obtain ⟨xs, h2, h3⟩ := q
        exact dct (.inr (.inr (.inl ⟨_, h2, h3.ex⟩))) (by simp only [rcv, ho])
      | lck kvs =>
        obtain ⟨od, xs, h2, h3⟩ := q
        exact dct (.inr (.inl ⟨_, _, h2⟩)) (by simp only [rcv, ho])
      | lct kvs =>
        obtain ⟨od, xs, h2, h3⟩ := q
        exact dct (.inr (.inr (.inr ⟨_, _, h2, h3.ex⟩))) (by simp only [rcv, ho])
      | ins C fs => simp only [rcv, ho] at hO; exact absurd rfl hO
variable {o e : Expr} {es : List Expr} {dO : ME} {da : ML} {name : Str} {apos cpos : Pos} {ms : MtT}
theorem de_mth0 (hm : MtsF X EO name ms) (h0 : ms "" = none) (ho : DE X EO o dO) (hbase : attributeBase o name X.env (eval o X.env) = eval o X.env := by rfl) (hline : (apos.endLine == cpos.line) = true := by rfl) : DE X EO (.Call (.Attribute o name apos) [] [] cpos) (eMth ms dO aNil) := by
  refine ⟨⟨fun pins s σ H Q I ⟨m, σt, th, sr, R, h⟩ => ?_⟩⟩
  refine wpAny_Call_method0_late hbase hline (thn (ho.pe.run pins s σ H (fun x H1 => ∃ m1 th1 t, Rel (gc X) m1 th1 H1 ∧ VR X.K m1 H1 t x ∧ WT (gc X) EO m1 H1 (match ms (rcv t th1) with
      | some f => (aNil σt th1).bind fun ts h2 => f t ts h2
      | none => .stuck) Q) I ⟨m, σt, th, sr, R, h.bind.imp fun t th1 m1 H1 x R1 h1 v vr => ⟨m1, th1, t, R1, vr, h1⟩⟩) fun v s1 ⟨x, H1, I1, r1, m1, th1, t, R1, vr, w⟩ => ?_)
  split at w
  · rename_i f ef
    have hO : rcv t th1 ≠ "" := fun z => by rw [z, h0] at ef; cases ef
    obtain ⟨q1, q2⟩ := rcv_is I1 R1 vr r1 rfl hO
    obtain ⟨id, pa, sl, ty, mt⟩ := (hm _ _ ef).run
    exact ⟨_, id, pa, sl, ty, q1, q2, Calls.callWith_builtin rfl (PySem.evalArgs_none (mt pins s1 σ H1 x [] v [] Q I1 r1 .nil ⟨m1, th1, t, [], R1, vr, .nil, w⟩))⟩
  · exact w.elim
theorem de_mth (hm : MtsF X EO name ms) (h0 : ms "" = none) (ho : DE X EO o dO) (ha : DA X EO (e :: es) da) (hbase : attributeBase o name X.env (eval o X.env) = eval o X.env := by rfl)
    (hfew : ((backTo cpos (starEach (e :: es) X.env)).all (fun x => !x.1) && (backToKw cpos (keywordEach [] X.env)).all (fun x => x.1.isSome)
      && decide ((e :: es).length + ([] : List Keyword).length + (if ([] : List Keyword).isEmpty then 0 else 1) < 30)) = true := by rfl)
    (hline : (apos.endLine == cpos.line) = true := by rfl) (hs : starEach (e :: es) X.env = (false, eval e X.env) :: starEach es X.env := by rfl) (hplain : (backTo cpos (starEach es X.env)).any (·.1) = false := by rfl) :
    DE X EO (.Call (.Attribute o name apos) (e :: es) [] cpos) (eMth ms dO da) := by
  refine ⟨⟨fun pins s σ H Q I ⟨m, σt, th, sr, R, h⟩ => ?_⟩⟩
  refine wpAny_Call_method_late hbase hfew hline rfl (thn (ho.pe.run pins s σ H (fun x H1 => ∃ m1 th1 t, SR X.K m1 H1 σt σ ∧ Rel (gc X) m1 th1 H1 ∧ VR X.K m1 H1 t x ∧ WT (gc X) EO m1 H1 (match ms (rcv t th1) with
      | some f => (da σt th1).bind fun ts h2 => f t ts h2
      | none => .stuck) Q) I ⟨m, σt, th, sr, R, h.bind.imp fun t th1 m1 H1 x R1 h1 v vr => ⟨m1, th1, t, sr.mono x.pre x.kp, R1, vr, h1⟩⟩) fun v s1 ⟨x, H1, I1, r1, m1, th1, t, sr1, R1, vr, w⟩ => ?_)
  split at w
  · rename_i f ef
    have hO : rcv t th1 ≠ "" := fun z => by rw [z, h0] at ef; cases ef
    obtain ⟨q1, q2⟩ := rcv_is I1 R1 vr r1 rfl hO
    obtain ⟨id, pa, sl, ty, mt⟩ := (hm _ _ ef).run
    refine ⟨_, id, pa, sl, ty, q1, q2, ?_⟩
    have hA := ha.pa.run cpos pins s1 σ H1 (fun vs H2 => ∃ m2 th2 ts, Rel (gc X) m2 th2 H2 ∧ VR X.K m2 H2 t x ∧ VRs X.K m2 H2 ts vs ∧ WT (gc X) EO m2 H2 (f t ts th2) Q) I1
      ⟨m1, σt, th1, sr1, R1, (Pn.bind w).imp fun ts th2 m2 H2 x2 R2 h2 vs vrs => ⟨m2, th2, ts, R2, vr.mono x2.pre x2.kp, vrs, h2⟩⟩
    rw [hs] at hA ⊢
    refine Calls.callWith_builtin (by show (false || (backTo cpos (starEach es X.env)).any (·.1)) = false; rw [hplain] <;> rfl) (Calls.evalArgs_plain ?_)
    exact thn hA fun us s2 ⟨vs, H2, I2, r2, m2, th2, ts, R2, vr2, vrs, w2⟩ => mt pins s2 σ H2 x vs v us Q I2 r1 r2 ⟨m2, th2, t, ts, R2, vr2, vrs, w2⟩
  · exact w.elim

/-! ### methods of lists -/
theorem mt_mk {T id : String} {f : Mt} (pa : PlainAttrs T) (sl : Slot T name id) (ty : typeOf (.builtin id) = pure (.type "method_descriptor")) (h : MtR X id (rM (gc X) EO f)) : MtF X EO T name f := ⟨⟨id, pa, sl, ty, h⟩⟩
/-- the list of a reference, to be read -/
theorem ref_lst {G : Gc} {m : List Addr} {th : TH} {H : Hp} {k : Nat} {v : V} {ts : List T} (R : Rel G m th H) (vr : VR G.K m H (.ref k) v) (hk : th[k]? = some (.lst ts)) : ∃ a xs, v = .ref a ∧ m[k]? = some a ∧ H a = some (.lst xs) ∧ VRs G.K m H ts xs := by
  cases vr with
  | ref hm =>
    obtain ⟨xs, h2, h3⟩ := R.at_ k _ _ hm hk
    exact ⟨_, xs, rfl, hm, h2, h3⟩
/-- a list rewritten -/
theorem lst_set {G : Gc} {m : List Addr} {th : TH} {H : Hp} {k : Nat} {a : Addr} {xs ys : List V} {ts us : List T} (R : Rel G m th H) (hm : m[k]? = some a) (hk : th[k]? = some (.lst ts)) (hH : H a = some (.lst xs)) (r : VRs G.K m H us ys) :
    Rel G m (th.set k (.lst us)) (upd H a (.lst ys)) ∧ Ext m H m (upd H a (.lst ys)) := by
  have kp : Keep H (upd H a (.lst ys)) := keep_upd (fun _ _ z => by rw [hH] at z; cases z) (fun _ _ z => by rw [hH] at z; cases z) _
  exact R.store hm hk (.lst ys) ⟨ys, upd_same, r.mono (List.prefix_refl _) kp⟩
def fAppend : Mt := fun t ts h => match t, ts with
  | .ref k, [y] => match h[k]? with
    | some (.lst xs) => if xs.length < sizeLine then .ok .non (h.set k (.lst (xs ++ [y]))) else .stuck
    | _ => .stuck
  | _, _ => .stuck
theorem mt_append' : MtF X EO "list" "append" fAppend := by
  refine mt_mk PySem.F.plainAttrs_list PySem.F.slot_list_append PySem.F.type_list_append fun pins s σ H x xs v us Q I rx rs ⟨m, th, t, ts, R, vr, vrs, w⟩ => ?_
  unfold fAppend at w
  split at w
  · rename_i k y
    split at w
    · rename_i ls hk
      split at w
      · rename_i hl
        obtain ⟨a, ys, ev, hm, hH, r⟩ := ref_lst R vr hk
        subst ev
        cases vrs with
        | cons r1 rr =>
        cases rr
        obtain ⟨R2, x2⟩ := lst_set R hm hk hH (r.append (.cons r1 .nil))
        exact mt_append pins s σ H _ _ v us Q I rx rs ⟨a, ys, _, rfl, rfl, hH, by rw [← r.length]; exact hl, w m _ x2 R2 _ .non⟩
      · exact w.elim
    · exact w.elim
  · exact w.elim
def msAppend : MtT := fun T => if T = "list" then some fAppend else none
theorem mts_append : MtsF X EO "append" msAppend := by
  intro T f h
  unfold msAppend at h
  split at h
  · rename_i e; subst e; cases h; exact mt_append'
  · cases h
def fExtend : Mt := fun t ts h => match t, ts with
  | .ref k, [.ref j] => match h[k]?, h[j]? with
    | some (.lst xs), some (.lst ys) => if xs.length + ys.length ≤ sizeLine then .ok .non (h.set k (.lst (xs ++ ys))) else .stuck
    | _, _ => .stuck
  | _, _ => .stuck
theorem mt_extend' : MtF X EO "list" "extend" fExtend := by
  refine mt_mk PySem.F.plainAttrs_list PySem.F.slot_list_extend PySem.F.type_list_extend fun pins s σ H x xs v us Q I rx rs ⟨m, th, t, ts, R, vr, vrs, w⟩ => ?_
  unfold fExtend at w
  split at w
  · rename_i k j
    split at w
    · rename_i ls ls2 hk hj
      split at w
      · rename_i hl
        obtain ⟨a, ys, ev, hm, hH, r⟩ := ref_lst R vr hk
        subst ev
        cases vrs with
        | cons r1 rr =>
        cases rr
        obtain ⟨b, zs, ev2, hm2, hH2, r2⟩ := ref_lst R r1 hj
        subst ev2
        obtain ⟨R2, x2⟩ := lst_set R hm hk hH (r.append r2)
        exact mt_extend pins s σ H _ _ v us Q I rx rs ⟨a, b, ys, zs, rfl, rfl, hH, hH2, by rw [← r.length, ← r2.length]; exact hl, w m _ x2 R2 _ .non⟩
      · exact w.elim
    · exact w.elim
  · exact w.elim
def msExtend : MtT := fun T => if T = "list" then some fExtend else none
theorem mts_extend : MtsF X EO "extend" msExtend := by
  intro T f h
  unfold msExtend at h
  split at h
  · rename_i e; subst e; cases h; exact mt_extend'
  · cases h
def fPopL : Mt := fun t ts h => match t, ts with
  | .ref k, [] => match h[k]? with
    | some (.lst xs) => match xs[xs.length - 1]? with
      | some y => .ok y (h.set k (.lst xs.dropLast))
      | none => .stuck
    | _ => .stuck
  | .ref k, [.int i] => match h[k]? with
    | some (.lst xs) => if -(2 ^ 63) ≤ i ∧ i < 2 ^ 63 then match seqIndex? i xs.length with
      | some j => match xs[j]? with
        | some y => .ok y (h.set k (.lst (xs.eraseIdx j)))
        | none => .stuck
      | none => .stuck else .stuck
    | _ => .stuck
  | _, _ => .stuck
theorem mt_pop' : MtF X EO "list" "pop" fPopL := by
  refine mt_mk PySem.F.plainAttrs_list PySem.F.slot_list_pop PySem.F.type_list_pop fun pins s σ H x xs v us Q I rx rs ⟨m, th, t, ts, R, vr, vrs, w⟩ => ?_
  unfold fPopL at w
  split at w
  · rename_i k
    split at w
    · rename_i ls hk
      split at w
      · rename_i y hy
        obtain ⟨a, ys, ev, hm, hH, r⟩ := ref_lst R vr hk
        subst ev
        cases vrs
        obtain ⟨z, hz, rz⟩ := r.get hy
        obtain ⟨R2, x2⟩ := lst_set R hm hk hH r.dropLast
        refine mt_pop pins s σ H _ _ v us Q I rx rs ⟨a, ys, z, rfl, rfl, hH, by rw [← r.length]; exact hz, w m _ x2 R2 _ (rz.mono x2.pre x2.kp)⟩
      · exact w.elim
    · exact w.elim
  · rename_i k i
    split at w
    · rename_i ls hk
      split at w
      · rename_i hi
        split at w
        · rename_i j hj
          split at w
          · rename_i y hy
            obtain ⟨a, ys, ev, hm, hH, r⟩ := ref_lst R vr hk
            subst ev
            cases vrs with
            | cons r1 rr =>
            cases rr
            cases r1
            obtain ⟨z, hz, rz⟩ := r.get hy
            obtain ⟨R2, x2⟩ := lst_set R hm hk hH (r.eraseIdx j)
            exact mt_popAt pins s σ H _ _ v us Q I rx rs ⟨a, ys, i, j, z, rfl, rfl, hH, hi.1, hi.2, by rw [← r.length]; exact hj, hz, w m _ x2 R2 _ (rz.mono x2.pre x2.kp)⟩
          · exact w.elim
        · exact w.elim
      · exact w.elim
    · exact w.elim
  · exact w.elim
def strsT : List T → Option (List Str)
  | [] => some []
  | .str x :: r => (strsT r).map (x :: ·)
  | _ :: _ => none
theorem strsT_R {K : PySem.W.Frag} {m : List Addr} {H : Hp} : ∀ {ts : List T} {vs : List V} {xs : List Str}, VRs K m H ts vs → strsT ts = some xs → vs = xs.map V.str
  | [], _, _, .nil, h => by cases h; rfl
  | .str x :: r, _, _, .cons a b, h => by
    simp only [strsT, Option.map_eq_some_iff] at h
    obtain ⟨ys, h1, h2⟩ := h
    subst h2
    cases a
    rw [strsT_R b h1]; rfl
def fJoin1 (a : Str) (ys : List T) (h : TH) : Res T := match strsT ys with
  | some zs => if (zs.map (·.length)).sum + zs.length * a.length ≤ 16777216 then .ok (.str (Txt.join a zs)) h else .stuck
  | none => .stuck
def fJoin : Mt := fun t ts h => match t, ts with
  | .str a, [.tup ys] => fJoin1 a ys h
  | .str a, [.ref k] => match h[k]? with
    | some (.lst ys) => fJoin1 a ys h
    | _ => .stuck
  | _, _ => .stuck
theorem mt_join' : MtF X EO "str" "join" fJoin := by
  refine mt_mk PySem.F.plainAttrs_str PySem.F.slot_str_join PySem.F.type_str_join fun pins s σ H x xs v us Q I rx rs ⟨m, th, t, ts, R, vr, vrs, w⟩ => ?_
  have go : ∀ {a : Str} {ys : List T} {p : Addr} {vs : List V}, x = .str a → xs = [.ref p] → (SqL X.K H p vs ∨ SqT X.K H p vs) → VRs X.K m H ys vs → Pn (gc X) EO m H (fJoin1 a ys th) (fun t _ m' H' => ∀ v, VR X.K m' H' t v → Q v H') →
      wpAny (model X.prog X.w) X.A (call (.builtin "str.join") (v :: us)) (EP X pins σ Q) X.xe s := by
    intro a ys p vs ex exs hp r w
    unfold fJoin1 at w
    split at w
    · rename_i zs hz
      split at w
      · rename_i hl
        have e := strsT_R r hz
        subst e
        exact mt_join pins s σ H _ _ v us Q I rx rs ⟨a, p, zs, ex, exs, hp, hl, Pn.done w R _ (.str _)⟩
      · exact w.elim
    · exact w.elim
  unfold fJoin at w
  split at w
  · rename_i a ys
    cases vr
    cases vrs with
    | cons r1 rr =>
    cases rr
    cases r1 with
    | tup h1 h2 => exact go rfl rfl (.inr h1.t) h2 w
  · rename_i a k
    split at w
    · rename_i ys hk
      cases vr
      cases vrs with
      | cons r1 rr =>
      cases rr
      obtain ⟨b, zs, ev2, hm2, hH2, r2⟩ := ref_lst R r1 hk
      subst ev2
      exact go rfl rfl (.inl (.of hH2)) r2 w
    · exact w.elim
  · exact w.elim
def msJoin : MtT := fun T => if T = "str" then some fJoin else none
theorem mts_join : MtsF X EO "join" msJoin := by
  intro T f h
  unfold msJoin at h
  split at h
  · rename_i e; subst e; cases h; exact mt_join'
  · cases h
end

/-! ### defs -/
def runB (b : MS) (nl : Nat) : Fn := fun ts h => match b (ts.map some ++ List.replicate nl none) h with
  | .nx _ h' => .ok .non h'
  | .rt t h' => .ok t h'
  | .exc c fs h' => .exc c fs h'
  | _ => .stuck
section
variable {P : Program} {w : World} {K : PySem.W.Frag} {mg : Str → Option Value} {base : Heap} {x qual : Str} {params : Arguments} {body : List Stmt} {scope : Scope} {f : Addr} {fd : FuncData} {N ps : List Str} {b : MS} {k : Nat}
/-- a def by its body -/
theorem fnok_of (F : FunD K x qual params body scope [] [] f fd) (S : FnScope N ps scope)
    (h : ∀ (cdv : Value) (A : Around) (outer : List Env) (s : Shared) (H : Hp) (E : XK), Room k (A.deeper (envOfC qual scope s.heap.objs.size f cdv)) → DSs (cxOf CX0 P w K mg base N qual scope f cdv A outer s H E).nox EO0 body b) :
    FnOk P w K mg base CX0 (k + 1) f fd ps (spT ⟨P, w, K, mg⟩ ps.length (runB b (N.length - ps.length))) := by
  refine F.ok S (fun vs H Q E ⟨m, ts, th, vr, hl, _, _⟩ => by rw [← vr.length]; exact hl) fun cdv A outer s H vs Q E hr ⟨m, ts, th, vr, hl, R, w⟩ => ?_
  refine ⟨_, PSs.nox (h cdv A outer s H E hr).pss, m, ts.map some ++ List.replicate (N.length - ps.length) none, th, ?_, R, ?_⟩
  · have e : L2.start N vs = vs.map some ++ List.replicate (N.length - ps.length) none := by unfold L2.start; rw [← vr.length, hl]
    rw [e]
    exact SR.start _ vr
  · unfold runB at w
    cases e : b (ts.map some ++ List.replicate (N.length - ps.length) none) th with
    | nx σt th2 => rw [e] at w; exact fun m1 H1 σ x R1 _ => w m1 H1 x R1 _ .non
    | rt t th2 => rw [e] at w; exact fun m1 H1 v x R1 vr1 => w m1 H1 x R1 v vr1
    | exc c fs th2 => rw [e] at w; exact w
    | bk σt th2 => rw [e] at w; exact w.elim
    | ct σt th2 => rw [e] at w; exact w.elim
    | stuck => rw [e] at w; exact w.elim
theorem good_of (F : FunD K x qual params body scope [] [] f fd) (hm : mg x = some (.ref f)) (S : FnScope N ps scope)
    (hb : ∀ (kV doc pm : Value) (an : Option Addr) (cdv ct : Value) (us : List Value), us.length = ps.length → bindArgs (PySem.W.fnOf x qual params body scope .none kV doc pm an cdv ct) ⟨us, []⟩ = pure (ps.zip us))
    (h : ∀ (cdv : Value) (A : Around) (outer : List Env) (s : Shared) (H : Hp) (E : XK), Room k (A.deeper (envOfC qual scope s.heap.objs.size f cdv)) → DSs (cxOf CX0 P w K mg base N qual scope f cdv A outer s H E).nox EO0 body b) :
    GoodFn P w K mg base (k + 1) x ps (runB b (N.length - ps.length)) := ⟨f, fd, hm, F.kp, F.bindsN hb, fnok_of F S h⟩
def fStuck : Fn := fun _ _ => .stuck
theorem good_stuck (F : FunD K x qual params body scope [] [] f fd) (hm : mg x = some (.ref f)) (S : FnScope N ps scope)
    (hb : ∀ (kV doc pm : Value) (an : Option Addr) (cdv ct : Value) (us : List Value), us.length = ps.length → bindArgs (PySem.W.fnOf x qual params body scope .none kV doc pm an cdv ct) ⟨us, []⟩ = pure (ps.zip us)) :
    GoodFn P w K mg base (k + 1) x ps fStuck :=
  ⟨f, fd, hm, F.kp, F.bindsN hb, F.ok (N := N) (k := k) S (fun vs H Q E ⟨m, ts, th, vr, hl, _, _⟩ => by rw [← vr.length]; exact hl) fun cdv A outer s H vs Q E hr ⟨m, ts, th, vr, hl, R, w⟩ => w.elim⟩
/-- a def that calls itself: f by fuel -/
def recF (b : Fn → MS) (nl : Nat) : Nat → Fn
  | 0 => fStuck
  | n + 1 => runB (b (recF b nl n)) nl
theorem good_rec {b : Fn → MS} (F : FunD K x qual params body scope [] [] f fd) (hm : mg x = some (.ref f)) (S : FnScope N ps scope)
    (hb : ∀ (kV doc pm : Value) (an : Option Addr) (cdv ct : Value) (us : List Value), us.length = ps.length → bindArgs (PySem.W.fnOf x qual params body scope .none kV doc pm an cdv ct) ⟨us, []⟩ = pure (ps.zip us))
    (h : ∀ (j : Nat) (g : Fn), GoodFn P w K mg base (k + 1 + j) x ps g → ∀ (cdv : Value) (A : Around) (outer : List Env) (s : Shared) (H : Hp) (E : XK), Room (k + 1 + j) (A.deeper (envOfC qual scope s.heap.objs.size f cdv)) → DSs (cxOf CX0 P w K mg base N qual scope f cdv A outer s H E).nox EO0 body (b g)) :
    ∀ n, GoodFn P w K mg base (k + 1 + n) x ps (recF b (N.length - ps.length) n)
  | 0 => good_stuck F hm S hb
  | n + 1 => good_of F hm S hb fun cdv A outer s H E hr => h n _ (good_rec F hm S hb h n) cdv A outer s H E hr
end

/-! ### a module's constants; the law -/
theorem gl_str {K : PySem.W.Frag} {mg : Str → Option Value} {x z : Str} (h : ∃ t, mg x = some (.str z t)) : GlV K mg x (.str z) :=
  let ⟨t, h⟩ := h; ⟨_, .str z, h, ⟨t, rfl⟩, fun _ _ => .str z⟩
theorem gl_int {K : PySem.W.Frag} {mg : Str → Option Value} {x : Str} {i : Int} (h : ∃ t, mg x = some (.int i t)) : GlV K mg x (.int i) :=
  let ⟨t, h⟩ := h; ⟨_, .int i, h, ⟨t, rfl⟩, fun _ _ => .int i⟩
theorem sqs_of {K : PySem.W.Frag} {H : Hp} {a : Addr} {xs : List V} (hO : Only H) (h : SqL K H a xs) : SqS K H a xs := by
  rcases h with (h | ⟨o, h⟩) | h
  · rcases hO a with z | ⟨o, ys, z⟩
    · rw [z] at h; cases h
    · rw [z] at h; cases h
  · exact .inl ⟨o, h⟩
  · exact .inr h
theorem law_of {P : Program} {w : World} {K : PySem.W.Frag} {mg : Str → Option Value} {base : Heap} {f : Addr} {fd : FuncData} {ps : List Str} {k : Nat} {F : Fn} {sp : Sp}
    (g : FnOk P w K mg base CX0 k f fd ps (spT ⟨P, w, K, mg⟩ ps.length F)) (h : ∀ vs H Q E, sp vs H Q E → spT ⟨P, w, K, mg⟩ ps.length F vs H Q E) : FnOk P w K mg base CX0 k f fd ps sp := g.imp h
theorem law_sp {G : Gc} {F : Fn} {ns : List Int} {th : TH} {H : Hp} {a : Addr} {Q : VK} {E : XK} (e : F [.scr ns] [] = .ok (.bl true) th) (hS : SqS G.K H a (ns.map V.int)) (hQ : ∀ H', Q (.bl true) H') : spT G 1 F [.ref a] H Q E := by
  refine ⟨[], [.scr ns], [], .cons (.scr hS) .nil, rfl, ⟨rfl, List.nodup_nil, fun i a o h _ => by simp at h⟩, ?_⟩
  show Pn _ _ _ _ (F [.scr ns] []) _
  rw [e]
  intro m' H' _ _ v vr
  cases vr
  exact hQ H'
end TL

/-! T-layer, part S: sets that are made of a list or a tuple, and sorted or counted. -/
namespace TL
open PySem PySem.Spec PyProof.Rows L2
abbrev freshS (w : World) : Obj := { cls := .type "set", dict := none, data := .set #[] 0 (.fresh 0 0 (!w.params.followText "set-order")) }
/-- a kind of elements: what is known of a set of them, how one is added -/
structure SKind (P : Program) (w : World) (K : Type) where
  St : Heap → Addr → List (Value × K) → Prop
  El : Heap → K → Value → Prop
  room : Around → Prop
  fresh : ∀ {h : Heap} {a : Addr}, h.get? a = some (freshS w) → St h a []
  keep : ∀ {h h' : Heap} {a : Addr} {L : List (Value × K)}, St h a L → (∀ o, h.get? a = some o → h'.get? a = some o) → (∀ p ∈ L, El h' p.2 p.1) → St h' a L
  elk : ∀ {h h' : Heap} {k : K} {v : Value}, El h k v → (∀ b o, h.get? b = some o → h'.get? b = some o) → El h' k v
  add : ∀ {A : Around} {E : Value → Shared → Prop} {s : Shared} {a : Addr} {L : List (Value × K)} {v : Value} {k : K} {Q : Bool → Shared → Prop}, room A → St s.heap a L → El s.heap k v → L.length + 1 < 64 →
    (∀ b h' tk L', s.toks ≤ tk → Heap.SameBut a s.heap h' → St h' a L' → (k ∈ L.map (·.2) → L' = L) → (k ∉ L.map (·.2) → L'.Perm ((v, k) :: L)) → Q b { s with heap := h', toks := tk }) → wpAny (model P w) A (setAdd a v) Q E s
  raw : ∀ {h : Heap} {a : Addr} {L : List (Value × K)}, St h a L → L.length < 64 ∧ (L.map (·.2)).Nodup ∧ ∃ (o : Obj) (es : Array (Int × Value)) (ep : Nat) (t : SetTable), h.get? a = some o ∧ o.ExactSet ∧ o.data = .set es ep t ∧ t.fits es.size = true ∧ Ris t.place.toList ∧
    (w.params.followText "set-order" = true ∨ t.led = true) ∧ es.toList.map (·.2) = L.map (·.1)
/-- what has come in of the first i -/
structure Come {K : Type} (ks : List (Value × K)) (i : Nat) (L : List (Value × K)) : Prop where
  sub : ∀ p ∈ L, p ∈ ks.take i
  all : ∀ p ∈ ks.take i, p.2 ∈ L.map (·.2)
  nd : (L.map (·.2)).Nodup
  few : L.length ≤ i
theorem take_snoc {α : Type} {l : List α} {i : Nat} {x : α} (h : l[i]? = some x) : l.take (i + 1) = l.take i ++ [x] := by rw [List.take_succ, h]; rfl
theorem Come.nil {K : Type} (ks : List (Value × K)) : Come ks 0 [] := ⟨fun _ h => (by cases h), fun _ h => (by simp at h), List.nodup_nil, Nat.le_refl _⟩
theorem Come.old {K : Type} {ks L : List (Value × K)} {i : Nat} {x : Value × K} (g : Come ks i L) (h : ks[i]? = some x) (hm : x.2 ∈ L.map (·.2)) : Come ks (i + 1) L := by
  have e := take_snoc h
  refine ⟨fun p hp => ?_, fun p hp => ?_, g.nd, Nat.le_succ_of_le g.few⟩
  · rw [e]; exact List.mem_append_left _ (g.sub p hp)
  · rw [e] at hp
    rcases List.mem_append.mp hp with z | z
    · exact g.all p z
    · have : p = x := by simpa using z
      rw [this]; exact hm
theorem Come.fit {K : Type} {ks L L' : List (Value × K)} {i : Nat} {x : Value × K} (g : Come ks i L) (h : ks[i]? = some x) (hm : x.2 ∉ L.map (·.2)) (pm : L'.Perm (x :: L)) : Come ks (i + 1) L' := by
  have e := take_snoc h
  refine ⟨fun p hp => ?_, fun p hp => ?_, ?_, ?_⟩
  · rw [e]
    rcases List.mem_cons.mp (pm.mem_iff.mp hp) with z | z
    · rw [z]; exact List.mem_append_right _ (List.mem_singleton.mpr rfl)
    · exact List.mem_append_left _ (g.sub p z)
  · rw [(pm.map (·.2)).mem_iff]
    rw [e] at hp
    rcases List.mem_append.mp hp with z | z
    · exact List.mem_cons_of_mem _ (g.all p z)
    · have : p = x := by simpa using z
      rw [this]; exact List.mem_cons_self
  · rw [(pm.map (·.2)).nodup_iff]
    exact List.nodup_cons.mpr ⟨hm, g.nd⟩
  · rw [pm.length_eq]; exact Nat.succ_le_succ g.few
section
variable {P : Program} {w : World} {K : Type} (kd : SKind P w K) {A : Around}
/-- the loop that fills a new set -/
theorem fill_set {I S : Addr} {fp wr : List Addr} {G : Array GenState → Array GenState → Prop} {n : Nat} {Pv : Nat → Value → Prop} {Wn : Nat → Shared → Prop} {R : Result → Shared → Prop} (W : WalksS P w A.in1 I fp wr G n Pv Wn) (hSf : S ∉ fp)
    (ks : List (Value × K)) (hn : n = ks.length) (hfew : ks.length < 64) (hval : ∀ i v, Pv i v → ∃ k, ks[i]? = some (v, k)) (h0 : Heap) (hel : ∀ p ∈ ks, kd.El h0 p.2 p.1) (hS0 : h0.get? S = none) (hw0 : ∀ b ∈ wr, h0.get? b = none) (hu : kd.room A.in1) :
    ∀ (d i : Nat) (s : Shared), n - i = d → i ≤ n → Wn i s → (∀ b o, h0.get? b = some o → s.heap.get? b = some o) → (∃ L, kd.St s.heap S L ∧ Come ks i L) →
      (∀ s' L, Moved (S :: wr) G s s' → kd.St s'.heap S L → Come ks n L → (∀ b o, h0.get? b = some o → s'.heap.get? b = some o) → R (.ok (.ret .none)) s') →
      codeAny (model P w) A (.builtin "set.update.loop" ⟨[.ref S, .ref I], []⟩) R s := by
  have nin : S ∉ wr := fun z => hSf (W.sub _ z)
  have kept : ∀ {s s' : Shared}, Moved wr G s s' → (∀ b o, h0.get? b = some o → s.heap.get? b = some o) → ∀ b o, h0.get? b = some o → s'.heap.get? b = some o :=
    fun mv hk b o e => mv.heap b o (fun z => by rw [hw0 b z] at e; cases e) (hk b o e)
  have same : ∀ {s s' : Shared} {L : List (Value × K)} {i : Nat}, Moved wr G s s' → (∀ b o, h0.get? b = some o → s'.heap.get? b = some o) → kd.St s.heap S L → Come ks i L → kd.St s'.heap S L := fun {s s' L i} mv hk st g =>
    kd.keep st (fun o e => mv.heap S o nin e) fun p hp => kd.elk (hel p (List.mem_of_mem_take (g.sub p hp))) hk
  intro d
  induction d with
  | zero =>
    intro i s hd hi hst hk ⟨L, st, g⟩ hR
    have ei : i = n := by omega
    subst ei
    refine codeAny_builtin PyProof.Rows.F.entry_set_update_loop ?_
    rw [Around.under_plainId PyProof.Rows.F.plain_set_update_loop _]
    refine wpAny_bind (M := model P w) (W.done s _ _ hst fun s' mv => ?_)
    have hk' := kept mv hk
    exact wpAny_pure (hR s' L (mv.mono fun b hb => List.mem_cons_of_mem _ hb) (same mv hk' st g) g hk')
  | succ d ih =>
    intro i s hd hi hst hk ⟨L, st, g⟩ hR
    have hlt : i < n := by omega
    refine codeAny_builtin PyProof.Rows.F.entry_set_update_loop ?_
    rw [Around.under_plainId PyProof.Rows.F.plain_set_update_loop _]
    refine wpAny_bind (M := model P w) (W.item i s _ _ hlt hst fun v s' hP hst' mv => ?_)
    obtain ⟨k, hp⟩ := hval i v hP
    have hk' := kept mv hk
    have st' := same mv hk' st g
    have el : kd.El s'.heap k v := kd.elk (hel (v, k) (List.mem_of_getElem? hp)) hk'
    show wpAny _ A.in1 (holding [v] (setAdd S v) >>= _) _ _ s'
    refine wpAny_bind (wpAny_holding (kd.add hu st' el (by have := g.few; omega) fun b h' tk L' htk sb st2 c1 c2 => ?_))
    have g' : Come ks (i + 1) L' := by
      rcases Classical.em (k ∈ L.map (·.2)) with c | c
      · rw [c1 c]; exact g.old hp c
      · exact g.fit hp c (c2 c)
    have hk2 : ∀ b o, h0.get? b = some o → h'.get? b = some o := fun b o e => (sb.2 b (fun z => by rw [z, hS0] at e; cases e)).trans (hk' b o e)
    refine wpAny_pure ⟨plainId_quiet PyProof.Rows.F.plain_set_update_loop _, ih (i + 1) _ (by omega) hlt (W.frame _ s' _ _ hst' htk fun b hb o e => ?_) hk2 ⟨L', st2, g'⟩ fun s2 L2 mv2 st3 g3 hk3 => ?_⟩
    · exact (sb.2 b (fun z => hSf (z ▸ hb))).trans e
    · refine hR s2 L2 (Moved.trans W.gtrans ((mv.mono fun b hb => List.mem_cons_of_mem _ hb).then_heap htk fun b o hb e => ?_) mv2) st3 g3 hk3
      exact (sb.2 b (fun z => hb (z ▸ List.mem_cons_self))).trans e
variable {E : Value → Shared → Prop} {s : Shared}
/-- set(x) of a list or a tuple -/
theorem make_set {l : Addr} {items : Array Value} (ks : List (Value × K)) {Q : Value → Shared → Prop} (hh : A.handled = none) (hl : s.heap.IsList l items ∨ s.heap.IsTuple l items) (hit : items.toList = ks.map (·.1)) (hel : ∀ p ∈ ks, kd.El s.heap p.2 p.1)
    (hfew : ks.length < 64) (hu : kd.room A.in1.in1.in1) (h : ∀ (h' : Heap) (tk : Nat) L, kd.St h' s.heap.objs.size L → Come ks ks.length L → (∀ b o, s.heap.get? b = some o → h'.get? b = some o) → Q (.ref s.heap.objs.size) { s with heap := h', toks := tk }) :
    wpAny (model P w) A (call (.type "set") [.ref l]) Q E s := by
  have hisz : items.size = ks.length := by rw [← Array.length_toList, hit, List.length_map]
  obtain ⟨c, tl, hmro⟩ := PySem.F.called_set.mro
  have q1 := PySem.F.called_set.made; have q2 := PySem.F.called_set.sub
  refine wpAny_call (codeAny_of_tree (show wpAny _ _ (callAny (.type "set") _) _ _ _ from wpAny_pure ⟨Code.quiet_builtin _ (by decide +kernel), codeAny_builtin PySem.F.entry_type_call ?_⟩))
  rw [Around.under_plain (weight_type_call_type "set" [.ref l] []) rfl]
  have q3 := PySem.F.called_set.notType; have q4 := PySem.F.called_set.canCreate; have q5 := PySem.F.typeCall_set_1 (.ref l)
  repeat (any_goals (first | assumption | wp_step))
  refine codeAny_mono (code_set_led1 (.ref l) (E := E) (Q₁ := fun ob s1 => ob = .ref s.heap.objs.size ∧ s1 = { s with heap := s.heap.push (freshS w) }) ⟨rfl, rfl⟩) fun r s1 hr => ?_
  cases r with
  | error e => exact hr
  | ok fl =>
    cases fl with
    | ret ob =>
      obtain ⟨rfl, rfl⟩ := hr
      have hS : (s.heap.push (freshS w)).get? s.heap.objs.size = some (freshS w) := Heap.get?_push_size _ rfl
      have hT : Shared.TypeIs { s with heap := s.heap.push (freshS w) } (.ref s.heap.objs.size) "set" := ⟨_, hS, rfl⟩
      have q6 := PySem.F.called_set.init.lookup; have q7 := PySem.F.called_set.init.bind (.ref s.heap.objs.size)
      repeat (any_goals (first | assumption | wp_step))
      refine codeAny_mono (codeAny_call_builtin (R := wants (fun r s2 => r = .none ∧ ∃ h' tk L, s2 = { s with heap := h', toks := tk } ∧ kd.St h' s.heap.objs.size L ∧ Come ks ks.length L ∧ (∀ b o, s.heap.get? b = some o → h'.get? b = some o)) E)
        PySem.F.called_set.init.plain PySem.F.entry_set_init (check_set_init_1 hT ?_)) fun r2 s2 hr2 => ?_
      · have none_of : ∀ b, s.heap.objs.size ≤ b → s.heap.get? b = none := fun b hb => by
          cases q : s.heap.get? b with
          | none => rfl
          | some o => exact absurd (Nat.lt_of_lt_of_le (Heap.lt_size q) hb) (Nat.lt_irrefl _)
        have z1 : (s.heap.push (freshS w)).objs.size = s.heap.objs.size + 1 := Heap.size_push ..
        have hval : ∀ (i : Nat) (v : Value), items[i]? = some v → ∃ k, ks[i]? = some (v, k) := fun i v hv => by
          rw [← Array.getElem?_toList, hit, List.getElem?_map] at hv
          cases hq : ks[i]? with
          | none => rw [hq] at hv; cases hv
          | some p => rw [hq] at hv; cases hv; exact ⟨p.2, rfl⟩
        have hh3 : A.in1.in1.in1.handled = none := by simp [hh]
        have fin : ∀ {it : Obj} {Wn : Nat → Heap → Prop} {R : Result → Shared → Prop}, Walks P w A.in1.in1.in1 (s.heap.push (freshS w)).objs.size [(s.heap.push (freshS w)).objs.size, l] [(s.heap.push (freshS w)).objs.size] items.size (fun i v => items[i]? = some v) Wn →
            l < s.heap.objs.size → Wn 0 ((s.heap.push (freshS w)).push it) →
            (∀ s' L, s'.gens = s.gens → s'.drawn = s.drawn → s'.os = s.os → kd.St s'.heap s.heap.objs.size L → Come ks ks.length L → (∀ b o, s.heap.get? b = some o → s'.heap.get? b = some o) → R (.ok (.ret .none)) s') →
            codeAny (model P w) A.in1.in1 (.builtin "set.update.loop" ⟨[.ref s.heap.objs.size, .ref (s.heap.push (freshS w)).objs.size], []⟩) R { s with heap := (s.heap.push (freshS w)).push it } := by
          intro it Wn R W hlS w0 hR
          have hSf : s.heap.objs.size ∉ [(s.heap.push (freshS w)).objs.size, l] := by
            rw [z1]; simp only [List.mem_cons, List.not_mem_nil, or_false, not_or]
            exact ⟨Nat.ne_of_lt (Nat.lt_succ_self _), Nat.ne_of_gt hlS⟩
          refine fill_set kd W.toS hSf ks hisz hfew hval s.heap hel (none_of _ (Nat.le_refl _)) (fun b hb => none_of b (by rw [List.mem_singleton.mp hb, z1]; exact Nat.le_succ _)) hu (items.size - 0) 0 _ rfl (Nat.zero_le _) w0
            (fun b o e => Heap.get?_push_of_some _ (Heap.get?_push_of_some _ e)) ⟨[], kd.fresh (Heap.get?_push_of_some _ hS), Come.nil ks⟩ fun s' L mv st g hk => hR s' L mv.gens mv.drawn mv.os st (by rw [← hisz]; exact g) hk
        rcases hl with hl | hl
        · obtain ⟨ol, hol, hcl, nl, hdl⟩ := id hl
          obtain ⟨ocls, odict, odata, oslots⟩ := ol
          simp only at hcl hdl
          subst hcl; subst hdl
          have hol' : (s.heap.push (freshS w)).get? l = some { cls := .type "list", dict := odict, data := .seq items nl, slots := oslots } := Heap.get?_push_of_some _ hol
          have q8 := PySem.F.sub_list_set; have q9 := PySem.F.sub_list_frozenset
          have hne : (Value.type "list" == Value.type "dict") = false := by decide
          have hl1 : (s.heap.push (freshS w)).IsList l items := ⟨_, hol', rfl, nl, rfl⟩
          unfold Builtin.«set.__init__» noKeywords Builtin.Frozenset.updateFrom
          generalize hPI : pyIter = PI
          wp_walk
          subst hPI
          refine wpAny_pyIter_list hl1 (wpAny_bind (wpAny_runValue ?_))
          have hneI : l ≠ (s.heap.push (freshS w)).objs.size := by rw [z1]; exact Nat.ne_of_lt (Nat.lt_succ_of_lt (Heap.lt_size hol))
          refine fin (Walks.list hh3 _ l hneI items) (Heap.lt_size hol) ⟨⟨_, Heap.get?_push_size _ rfl, rfl, rfl⟩, (hl1.push _)⟩ fun s' L e1 e2 e3 st g hk => ?_
          obtain ⟨h', g', d', tk', os'⟩ := s'
          subst e1 e2 e3
          exact wpAny_pure (wpAny_pure ⟨rfl, h', tk', L, rfl, st, g, hk⟩)
        · obtain ⟨ol, hol, hcl, nl, hdl⟩ := id hl
          obtain ⟨ocls, odict, odata, oslots⟩ := ol
          simp only at hcl hdl
          subst hcl; subst hdl
          have hol' : (s.heap.push (freshS w)).get? l = some { cls := .type "tuple", dict := odict, data := .seq items nl, slots := oslots } := Heap.get?_push_of_some _ hol
          have q8 := PySem.F.sub_tuple_set; have q9 := PySem.F.sub_tuple_frozenset
          have hne : (Value.type "tuple" == Value.type "dict") = false := by decide
          have hl1 : (s.heap.push (freshS w)).IsTuple l items := ⟨_, hol', rfl, nl, rfl⟩
          unfold Builtin.«set.__init__» noKeywords Builtin.Frozenset.updateFrom
          generalize hPI : pyIter = PI
          wp_walk
          subst hPI
          refine wpAny_pyIter_tuple hl1 (wpAny_bind (wpAny_runValue ?_))
          have hneI : l ≠ (s.heap.push (freshS w)).objs.size := by rw [z1]; exact Nat.ne_of_lt (Nat.lt_succ_of_lt (Heap.lt_size hol))
          refine fin (Walks.tuple hh3 _ l hneI items) (Heap.lt_size hol) ⟨⟨_, Heap.get?_push_size _ rfl, rfl, rfl⟩, (hl1.push _)⟩ fun s' L e1 e2 e3 st g hk => ?_
          obtain ⟨h', g', d', tk', os'⟩ := s'
          subst e1 e2 e3
          exact wpAny_pure (wpAny_pure ⟨rfl, h', tk', L, rfl, st, g, hk⟩)
      · cases r2 with
        | error e => exact hr2
        | ok fl2 =>
          cases fl2 with
          | ret r =>
            obtain ⟨rfl, h', tk, L, rfl, st, g, hk⟩ := hr2
            repeat (any_goals (first | assumption | wp_step))
            exact h _ _ _ st g hk
          | _ => exact hr2.elim
    | _ => exact hr.elim
end
end TL

/-! T-layer, part S2: sorted(set(x)), len(set(x)). -/
namespace TL
open PySem PySem.Spec PyProof.Rows L2
theorem perm_map {α β : Type} (f : α → β) : ∀ {ys : List β} {zs : List β}, ys.Perm zs → ∀ l : List α, zs = l.map f → ∃ l' : List α, ys = l'.map f ∧ l'.Perm l := by
  intro ys zs h
  induction h with
  | nil => intro l e; exact ⟨l, by simpa using e, List.Perm.refl _⟩
  | cons x h ih =>
    intro l e
    cases l with
    | nil => cases e
    | cons a l =>
      obtain ⟨e1, e2⟩ := List.cons.inj e
      obtain ⟨l', h1, h2⟩ := ih l e2
      exact ⟨a :: l', by rw [List.map_cons, ← h1, ← e1], h2.cons a⟩
  | swap x y l0 =>
    intro l e
    cases l with
    | nil => cases e
    | cons a l =>
      cases l with
      | nil => simp at e
      | cons b l =>
        simp only [List.map_cons, List.cons.injEq] at e
        obtain ⟨e1, e2, e3⟩ := e
        exact ⟨b :: a :: l, by simp [e1, e2, e3], List.Perm.swap a b l⟩
  | trans h1 h2 ih1 ih2 =>
    intro l e
    obtain ⟨l2, e2, p2⟩ := ih2 l e
    obtain ⟨l3, e3, p3⟩ := ih1 l2 e2
    exact ⟨l3, e3, p3.trans p2⟩
theorem each_mk {α : Type} {R : Value → α → Prop} : ∀ {l : List (Value × α)}, (∀ p ∈ l, R p.1 p.2) → PySem.W.EachIs R (l.map (·.1)) (l.map (·.2))
  | [], _ => .nil
  | p :: l, h => .cons (h p List.mem_cons_self) (each_mk fun q hq => h q (List.mem_cons_of_mem _ hq))
section
variable {P : Program} {w : World} {K : Type} (kd : SKind P w K) {A : Around} {E : Value → Shared → Prop} {s : Shared} {a : Addr} {L : List (Value × K)} {Q : Value → Shared → Prop}
theorem len_kd (st : kd.St s.heap a L) (h : ∀ tk, Q (.int L.length tk) { s with toks := tk + 1 }) : wpAny (model P w) A (call (.builtin "len") [.ref a]) Q E s := by
  obtain ⟨hl, _, o, es, ep, t, ho, ex, hd, hf, _, _, e⟩ := kd.raw st
  have z : es.size = L.length := by
    have := congrArg List.length e
    simpa using this
  refine call_len_set ho ex hd hf (by omega) ?_
  rw [z]
  exact h (s.toks + 1)
theorem sorted_kd (st : kd.St s.heap a L) (hh : A.handled = none) {enc : K → PyData} {R : Value → K → Prop} (hR : ∀ p ∈ L, R p.1 p.2) (hrd : ∀ p ∈ L, ∃ as, Reads s.heap p.1 (enc p.2) as ∧ ∀ b ∈ as, b < s.heap.objs.size)
    (hal : ∀ k ∈ L.map (·.2), ∀ k' ∈ L.map (·.2), PySem.W.alike (enc k) (enc k') = true) (hk : ∀ ks : List K, (∀ k ∈ ks, k ∈ L.map (·.2)) → PySem.W.Sortable (ks.map enc)) (hu : ∀ k ∈ L.map (·.2), A.units + 2 + (enc k).depth < cLine)
    (h : ∀ (s' : Shared) (q : Addr) (out : List Value) (c : Nat) (ks : List K), (∀ b o, s.heap.get? b = some o → s'.heap.get? b = some o) → s'.gens = s.gens → s'.os = s.os → s.heap.objs.size ≤ q → s'.heap.get? q = some (seqObj "list" out.toArray c) → ks.Perm (L.map (·.2)) →
      PySem.W.EachIs R out (ks.mergeSort (PySem.W.dataLe false enc)) → Q (.ref q) s') : wpAny (model P w) A (call (.builtin "sorted") [.ref a]) Q E s := by
  obtain ⟨hl, _, o, es, ep, t, ho, ex, hd, hf, ri, ld, e⟩ := kd.raw st
  have z : es.size = L.length := by
    have := congrArg List.length e
    simpa using this
  refine Calls.call_function_entry kind_sorted plain_sorted entry_sorted (args_sorted1 _) ?_
  unfold Builtin.«sorted»
  refine wpAny_bind (m := checkCount "sorted" 1 1 _) (wpAny_pure (wpAny_bind (collect_set (A := A.in1) hh ⟨o, ho, ex.1, hd⟩ hf (by unfold scanBound; omega) ri ld fun s1 vs k1 hz g1 o1 pm => ?_)))
  rw [e] at pm
  obtain ⟨L1, e1, p1⟩ := perm_map (·.1) pm L rfl
  have hvl : vs.length < 64 := by rw [pm.length_eq, List.length_map]; exact hl
  refine wpAny_bind (wpAny_newList ?_ (by rw [sizeLine_eq]; omega))
  have hoL : (s1.heap.push (seqObj "list" vs.toArray 0)).get? s1.heap.objs.size = some (seqObj "list" vs.toArray 0) := Heap.get?_push_size _ rfl
  have er : PySem.W.EachIs (fun v b => ∃ as, Reads (s1.heap.push (seqObj "list" vs.toArray 0)) v (enc b) as ∧ s1.heap.objs.size ∉ as) (L1.map (·.1)) (L1.map (·.2)) := each_mk fun p hp => by
    obtain ⟨as, r, hlt⟩ := hrd p (p1.mem_iff.mp hp)
    exact ⟨as, PyProof.Rows.Reads.keeps (fun b u q => Heap.get?_push_of_some _ (k1 b u q)) r, fun z => absurd (hlt _ z) (Nat.not_lt.mpr hz)⟩
  have eR : PySem.W.EachIs R (L1.map (·.1)) (L1.map (·.2)) := each_mk fun p hp => hR p (p1.mem_iff.mp hp)
  rw [← e1] at er eR
  refine wpAny_bind (wpAny_holding (PySem.W.list_sort_data (s := { s1 with heap := s1.heap.push (seqObj "list" vs.toArray 0) }) (bs := L1.map (·.2)) (enc := enc) (R := R) hoL eR er (fun d hd e he => ?_) (hk _ fun k hk' => (p1.map (·.2)).mem_iff.mp hk') (by rw [List.length_map, p1.length_eq, sizeLine_eq]; omega) (fun k hk' => ?_) fun out hout E2 => ?_))
  · obtain ⟨k, hk1, rfl⟩ := List.mem_map.mp hd
    obtain ⟨k', hk2, rfl⟩ := List.mem_map.mp he
    exact hal k ((p1.map (·.2)).mem_iff.mp hk1) k' ((p1.map (·.2)).mem_iff.mp hk2)
  · have := hu k ((p1.map (·.2)).mem_iff.mp hk')
    show A.in1.units + 1 + _ < _
    have e3 : A.in1.units = A.units + 1 := rfl
    omega
  · obtain ⟨c, hc⟩ := sortedHeap_at (vs := vs) (out := out.toArray) hoL
    refine wpAny_pure ⟨_, rfl, h _ s1.heap.objs.size out c (L1.map (·.2)) (fun b u q => ?_) g1 o1 hz hc (p1.map _) E2⟩
    have q' := k1 b u q
    have hlt := Heap.lt_size q'
    show (sortedHeap (s1.heap.push (seqObj "list" vs.toArray 0)) s1.heap.objs.size vs out.toArray).get? b = some u
    rw [sortedHeap_old (Nat.ne_of_lt hlt) (by rw [size_push']; exact Nat.lt_succ_of_lt hlt)]
    exact Heap.get?_push_of_some _ q'
end
end TL

/-! T-layer, part S3: sets of ints and texts. -/
namespace TL
open PySem PySem.Spec PyProof.Rows L2
structure ScanS (P : Program) (w : World) (h : Heap) (a : Addr) (L : List (Value × Key)) : Prop where
  ob : ∃ (o : Obj) (es : Array (Int × Value)) (ep : Nat) (t : SetTable), h.get? a = some o ∧ o.ExactSet ∧ o.data = .set es ep t ∧ es.toList = L.map (fun p => ((mixKind P w).hash p.2, p.1)) ∧ t.fits es.size = true ∧ Ris t.place.toList ∧ (w.params.followText "set-order" = true ∨ t.led = true)
  nd : (L.map (·.2)).Nodup
  few : L.length < 64
  el : ∀ p ∈ L, (mixKind P w).is p.2 p.1 = true ∧ p.1.scannable = true
section
variable {P : Program} {w : World} {A : Around} {E : Value → Shared → Prop} {s : Shared} {a : Addr} {L : List (Value × Key)}
theorem scan_elems {es : Array (Int × Value)} (e : es.toList = L.map (fun p => ((mixKind P w).hash p.2, p.1))) (el : ∀ p ∈ L, (mixKind P w).is p.2 p.1 = true ∧ p.1.scannable = true) : ElemsOf (mixKind P w) es.toList := fun x hx => by
  rw [e] at hx
  obtain ⟨p, hp, rfl⟩ := List.mem_map.mp hx
  exact ⟨⟨p.2, (el p hp).1, rfl⟩, (el p hp).2⟩
/-- the store behind a new element -/
theorem scan_tail {g : Bool → Sem Unit} (hg : ∀ (b : Bool) (s1 : Shared) (Q' : Unit → Shared → Prop), Q' () s1 → wpAny (model P w) A (g b) Q' E s1) {o : Obj} {es : Array (Int × Value)} {ep : Nat} {t : SetTable} (ho : s.heap.get? a = some o) (ex : o.ExactSet) (hd : o.data = .set es ep t)
    {es1 : Array (Int × Value)} {t2 : SetTable} {L1 : List (Value × Key)} (e1 : es1.toList = L1.map (fun p => ((mixKind P w).hash p.2, p.1))) (nd : (L1.map (·.2)).Nodup) (few : L1.length < 64) (el : ∀ p ∈ L1, (mixKind P w).is p.2 p.1 = true ∧ p.1.scannable = true)
    (hf : t2.fits es1.size = true) (ri : Ris t2.place.toList) (ld : w.params.followText "set-order" = true ∨ t2.led = true) {wd : Bool} {R : Option Bool → Shared → Prop} (hR : ∀ h' L', Heap.SameBut a s.heap h' → ScanS P w h' a L' → L'.Perm L1 → R (some true) { s with heap := h' }) :
    wpAny (model P w) A (do
        storeSet a es1 t2
        if (!wd && t2.tooFull) = true then do
            g (relayAll t2 es1 (SetTable.grown es1.size)).2.2
            storeSet a (relayAll t2 es1 (SetTable.grown es1.size)).1 (relayAll t2 es1 (SetTable.grown es1.size)).2.1
            pure (some true)
          else pure (some true)) R E s := by
  have z1 : es1.size = L1.length := by rw [← Array.length_toList, e1, List.length_map]
  refine wpAny_bind (wpAny_storeSet_of ho hd ?_ (by rw [z1, sizeLine_eq]; omega))
  have ho1 := store_at (es' := es1) (t' := t2) ho hd
  have sb := Heap.SameBut.update s.heap a (Obj.putSet es1 t2)
  split
  · have pm := relayAll_perm t2 es1 (SetTable.grown es1.size)
    have f3 := relayAll_fits t2 es1 (SetTable.grown es1.size)
    have r3 := relayAll_ris t2 es1 (SetTable.grown es1.size)
    have l3 := relayAll_led t2 es1 (SetTable.grown es1.size)
    generalize relayAll t2 es1 (SetTable.grown es1.size) = Z at pm f3 r3 l3 ⊢
    obtain ⟨es2, t3, gave⟩ := Z
    dsimp only at pm f3 r3 l3 ⊢
    rw [e1] at pm
    obtain ⟨L2, e2, p2⟩ := perm_map (fun p : Value × Key => ((mixKind P w).hash p.2, p.1)) pm L1 rfl
    have z2 : es2.size = L1.length := by rw [← Array.length_toList, e2, List.length_map, p2.length_eq]
    refine wpAny_bind (hg _ _ _ (wpAny_bind (wpAny_storeSet_of ho1 rfl ?_ (by rw [z2, sizeLine_eq]; omega))))
    have ho2 := store_at (es' := es2) (t' := t3) ho1 rfl
    refine wpAny_pure (hR _ L2 (sb.trans (Heap.SameBut.update _ a _)) ⟨⟨_, es2, _, t3, ho2, ex, rfl, e2, f3, r3, ld.imp id fun z => by rw [l3]; exact z⟩, (p2.map (·.2)).nodup_iff.mpr nd, by rw [p2.length_eq]; exact few, fun p hp => el p (p2.mem_iff.mp hp)⟩ p2)
  · exact wpAny_pure (hR _ L1 sb ⟨⟨_, es1, _, t2, ho1, ex, rfl, e1, hf, ri, ld⟩, nd, few, el⟩ (List.Perm.refl _))
theorem scan_add {v : Value} {k : Key} {Q : Bool → Shared → Prop} (R : ScanS P w s.heap a L) (hk : (mixKind P w).is k v = true) (hs : v.scannable = true) (hfew : L.length + 1 < 64)
    (hQ : ∀ b h' L', Heap.SameBut a s.heap h' → ScanS P w h' a L' → (k ∈ L.map (·.2) → L' = L) → (k ∉ L.map (·.2) → L'.Perm ((v, k) :: L)) → Q b { s with heap := h' }) : wpAny (model P w) A (setAddHashed a v ((mixKind P w).hash k)) Q E s := by
  obtain ⟨o, es, ep, t, ho, ex, hd, he, hf, ri, ld⟩ := R.ob
  have hel := scan_elems he R.el
  have z : es.size = L.length := by rw [← Array.length_toList, he, List.length_map]
  have hb : es.size < scanBound := by unfold scanBound; omega
  unfold setAddHashed setAddHashedIn
  refine wpAny_holding (wpAny_bind (wpAny_setState_of ho hd hf ?_))
  dsimp only
  rw [byScan_of hs hb hel]
  simp only [↓reduceIte]
  unfold setAddByScan
  refine wpAny_bind (wpAny_bind (wpAny_rule (wpAny_bind (wpAny_setScan_of hk ho hd hf hel ?_))))
  have mem : ∀ p ∈ L, ((mixKind P w).is k p.1 = true ↔ p.2 = k) := fun p hp => ⟨fun q => (mixKind P w).inj _ _ _ (R.el p hp).1 q, fun q => q ▸ (R.el p hp).1⟩
  cases hfi : List.findIdx? (fun e => (mixKind P w).is k e.2) es.toList with
  | some j =>
    dsimp only
    obtain ⟨hj, pj, _⟩ := List.findIdx?_eq_some_iff_getElem.mp hfi
    have hin : k ∈ L.map (·.2) := by
      obtain ⟨x, hx, px⟩ : ∃ x ∈ es.toList, (mixKind P w).is k x.2 = true := ⟨_, List.getElem_mem hj, pj⟩
      rw [he] at hx
      obtain ⟨p, hp, ep⟩ := List.mem_map.mp hx
      have q : (mixKind P w).is k p.1 = true := by rw [← ep] at px; exact px
      exact List.mem_map.mpr ⟨p, hp, (mem p hp).mp q⟩
    exact wpAny_pure (wpAny_pure (hQ _ s.heap L (Heap.SameBut.refl a s.heap) R (fun _ => rfl) fun c => absurd hin c))
  | none =>
    dsimp only
    have hnk : k ∉ L.map (·.2) := fun q => by
      obtain ⟨p, hp, ep⟩ := List.mem_map.mp q
      have c := List.findIdx?_eq_none_iff.mp hfi ((mixKind P w).hash p.2, p.1) (by rw [he]; exact List.mem_map.mpr ⟨p, hp, rfl⟩)
      rw [(mem p hp).mpr ep] at c
      cases c
    have gw : ∀ (b : Bool) {s1 : Shared} {Q' : Unit → Shared → Prop}, Q' () s1 → wpAny (model P w) A (match b with | true => rule "set.scan.the-table-gave-way" | false => pure ()) Q' E s1 :=
      fun b s1 Q' q => by cases b <;> first | exact wpAny_pure q | exact wpAny_rule q
    have pm := layNew_perm t es ((mixKind P w).hash k) v
    have f1 := layNew_fits t es ((mixKind P w).hash k) v
    have r1 := layNew_ris t es ((mixKind P w).hash k) v ri
    have l1 := layNew_led t es ((mixKind P w).hash k) v
    generalize layNew t es ((mixKind P w).hash k) v = Z at pm f1 r1 l1 ⊢
    obtain ⟨es1, t1, wd, gave⟩ := Z
    dsimp only at pm f1 r1 l1 ⊢
    rw [Array.toList_push, he] at pm
    obtain ⟨L1, e1, p1⟩ := perm_map (fun p : Value × Key => ((mixKind P w).hash p.2, p.1)) (pm.trans (List.perm_append_singleton _ _)) ((v, k) :: L) rfl
    have nd1 : (L1.map (·.2)).Nodup := (p1.map (·.2)).nodup_iff.mpr (List.nodup_cons.mpr ⟨hnk, R.nd⟩)
    have el1 : ∀ p ∈ L1, (mixKind P w).is p.2 p.1 = true ∧ p.1.scannable = true := fun p hp => by
      rcases List.mem_cons.mp (p1.mem_iff.mp hp) with q | q
      · rw [q]; exact ⟨hk, hs⟩
      · exact R.el p q
    have few1 : L1.length < 64 := by rw [p1.length_eq]; exact hfew
    have ld1 : w.params.followText "set-order" = true ∨ t1.led = true := ld.imp id fun q => by rw [l1]; exact q
    refine wpAny_bind (gw _ ?_)
    split
    · refine wpAny_bind ?_
      rw [hashByValue_scannable 8 hs]
      refine wpAny_pure (scan_tail ?_ ho ex hd e1 nd1 few1 el1 ?_ ?_ ?_ ?_)
      · intro b s1 Q' q; cases b <;> first | exact wpAny_pure q | exact wpAny_rule q
      · first | (split <;> first | exact f1 | exact SetTable.fits_plain_off f1) | exact f1
      · first | (split <;> exact r1) | exact r1
      · first | (split <;> exact ld1) | exact ld1
      · intro h' L' sb r p; dsimp only; exact wpAny_pure (hQ _ h' L' sb r (fun c => absurd c hnk) fun _ => p.trans p1)
    · refine wpAny_bind (wpAny_pure ?_)
      simp only [↓reduceIte]
      refine scan_tail ?_ ho ex hd e1 nd1 few1 el1 f1 r1 ld1 ?_
      · intro b s1 Q' q; cases b <;> first | exact wpAny_pure q | exact wpAny_rule q
      · intro h' L' sb r p; dsimp only; exact wpAny_pure (hQ _ h' L' sb r (fun c => absurd c hnk) fun _ => p.trans p1)
end
def scanKind (P : Program) (w : World) : SKind P w Key where
  St := ScanS P w
  El := fun _ k v => (mixKind P w).is k v = true ∧ v.scannable = true
  room := fun _ => True
  fresh := fun {h a} e => ⟨⟨_, #[], 0, _, e, ⟨rfl, rfl, rfl⟩, rfl, rfl, rfl, List.Pairwise.nil, by
    show _ ∨ (!w.params.followText "set-order") = true
    cases w.params.followText "set-order"
    · exact .inr rfl
    · exact .inl rfl⟩, List.nodup_nil, by decide, fun p hp => by cases hp⟩
  keep := fun st ka _ => ⟨let ⟨o, es, ep, t, ho, r⟩ := st.ob; ⟨o, es, ep, t, ka o ho, r⟩, st.nd, st.few, st.el⟩
  elk := fun h _ => h
  add := fun {A E s a L v k Q} _ st el few h => by
    unfold setAdd
    refine wpAny_holding (wpAny_bind ((mixKind P w).pyHash el.1 (scan_add (s := { s with toks := s.toks + 1 }) st el.1 el.2 few fun b h' L' sb st' c1 c2 => h b h' (s.toks + 1) L' (Nat.le_succ _) sb st' c1 c2)))
  raw := fun st => ⟨st.few, st.nd, let ⟨o, es, ep, t, ho, ex, hd, he, hf, ri, ld⟩ := st.ob; ⟨o, es, ep, t, ho, ex, hd, hf, ri, ld, by rw [he, List.map_map]; rfl⟩⟩
end TL

/-! T-layer, part S4: sets of flat tuples (of ints, texts, None). -/
namespace TL
open PySem PySem.Spec PyProof.Rows L2
def leafK : NestedKey → Bool
  | .tup _ => false
  | _ => true
/-- v is a flat tuple, the key k -/
def FlatT (h : Heap) (k : NestedKey) (v : Value) : Prop := ∃ b ks, v = .ref b ∧ k = .tup ks ∧ NestedIs h k (.ref b) ∧ k.depth ≤ 8 ∧ ∀ x ∈ ks, leafK x = true
theorem FlatT.keep {h h' : Heap} {k : NestedKey} {v : Value} (x : FlatT h k v) (hk : ∀ b o vs n, h.get? b = some o → o.data = .seq vs n → h'.get? b = some o) : FlatT h' k v :=
  let ⟨b, ks, e1, e2, e3, e4, e5⟩ := x; ⟨b, ks, e1, e2, NestedIs.at hk _ _ e3, e4, e5⟩
theorem leaf_vals {h : Heap} : ∀ {ks : List NestedKey} {vs : List Value}, NestedAll h ks vs → (∀ x ∈ ks, leafK x = true) → ∀ v ∈ vs, ∃ x, NestedIs h x v ∧ leafK x = true
  | _, _, .nil, _, v, hv => by cases hv
  | _, _, .cons a b, hl, v, hv => by
    rcases List.mem_cons.mp hv with e | hv
    · rw [e]; exact ⟨_, a, hl _ List.mem_cons_self⟩
    · exact leaf_vals b (fun x hx => hl x (List.mem_cons_of_mem _ hx)) v hv
theorem leaf_cls {h : Heap} {x : NestedKey} {v : Value} (a : NestedIs h x v) (hl : leafK x = true) (n : Nat) : ofAClassStatement n v = pure false := by
  cases a with
  | tup => cases hl
  | none => cases n <;> rfl
  | bool _ => cases n <;> rfl
  | int _ _ => cases n <;> rfl
  | text _ _ => cases n <;> rfl
theorem leaf_hash {h : Heap} {x : NestedKey} {v : Value} (a : NestedIs h x v) (hl : leafK x = true) (n : Nat) : ∃ b, hashByValue n v = pure b := by
  cases a with
  | tup => cases hl
  | none => exact ⟨_, hashByValue_scannable n rfl⟩
  | bool _ => exact ⟨_, hashByValue_scannable n rfl⟩
  | int _ _ => exact ⟨_, hashByValue_scannable n rfl⟩
  | text _ _ => exact ⟨_, hashByValue_scannable n rfl⟩
section
variable {P : Program} {w : World} {A : Around} {E : Value → Shared → Prop} {s : Shared}
theorem flat_cls {k : NestedKey} {v : Value} {Q : Bool → Shared → Prop} (x : FlatT s.heap k v) (h : Q false s) : wpAny (model P w) A (ofAClassStatement 8 v) Q E s := by
  obtain ⟨b, ks, rfl, rfl, ni, _, hl⟩ := x
  cases ni with
  | @tup _ o vs n _ ho hc hd ha =>
  have hT : s.TypeIs (.ref b) "tuple" := ⟨o, ho, hc⟩
  unfold ofAClassStatement
  refine wpAny_bind (wpAny_typeOf hT ?_)
  dsimp only
  have e : (("tuple" : String) == "tuple") = true := by decide
  simp only [e, if_true, Bool.not_true, Bool.false_eq_true, if_false]
  show wpAny _ _ (seqItems? (.ref b) >>= _) _ _ s
  refine wpAny_bind (wpAny_seqItems ho hd (wpAny_bind ?_))
  show wpAny _ _ (forIn vs _ _) _ _ s
  rw [← Array.forIn_toList]
  refine wpAny_forIn_list _ (fun rest r s' => r.1 = none ∧ s' = s ∧ ∀ v ∈ rest, ∃ x, NestedIs s.heap x v ∧ leafK x = true) _ ?_ ?_ _ _ ⟨rfl, rfl, leaf_vals ha hl⟩
  · rintro v rest r s' ⟨hr, rfl, all⟩
    obtain ⟨x, a1, a2⟩ := all v List.mem_cons_self
    rw [leaf_cls a1 a2]
    refine wpAny_bind (wpAny_pure ?_)
    simp only [Bool.false_eq_true, if_false]
    exact wpAny_pure ⟨rfl, rfl, fun u hu => all u (List.mem_cons_of_mem _ hu)⟩
  · rintro ⟨r1, r2⟩ s' ⟨hr, rfl, _⟩
    cases (show r1 = none from hr)
    exact wpAny_pure h
theorem flat_hash {k : NestedKey} {v : Value} {Q : Bool → Shared → Prop} (x : FlatT s.heap k v) (h : ∀ b, Q b s) : wpAny (model P w) A (hashByValue 8 v) Q E s := by
  obtain ⟨b, ks, rfl, rfl, ni, _, hl⟩ := x
  cases ni with
  | @tup _ o vs n _ ho hc hd ha =>
  have hT : s.TypeIs (.ref b) "tuple" := ⟨o, ho, hc⟩
  unfold hashByValue
  refine wpAny_bind (wpAny_specialOf hT PySem.F.slot_tuple_hash.lookup ?_)
  show wpAny _ _ (seqItems? (.ref b) >>= _) _ _ s
  refine wpAny_bind (wpAny_seqItems ho hd (wpAny_bind ?_))
  show wpAny _ _ (forIn vs _ _) _ _ s
  rw [← Array.forIn_toList]
  refine wpAny_forIn_list _ (fun rest r s' => (r.1 = none ∨ ∃ b, r.1 = some b) ∧ s' = s ∧ ∀ v ∈ rest, ∃ x, NestedIs s.heap x v ∧ leafK x = true) _ ?_ ?_ _ _ ⟨.inl rfl, rfl, leaf_vals ha hl⟩
  · rintro v rest r s' ⟨hr, rfl, all⟩
    obtain ⟨x, a1, a2⟩ := all v List.mem_cons_self
    obtain ⟨bb, eb⟩ := leaf_hash a1 a2 7
    rw [eb]
    refine wpAny_bind (wpAny_pure ?_)
    cases bb
    · exact wp_if_pos rfl (wpAny_pure (wpAny_pure (h _)))
    · exact wp_if_neg (by decide) (wpAny_pure ⟨.inl rfl, rfl, fun u hu => all u (List.mem_cons_of_mem _ hu)⟩)
  · rintro ⟨r1, r2⟩ s' ⟨hr, rfl, _⟩
    rcases (show r1 = none ∨ ∃ b, r1 = some b from hr) with e | ⟨b, e⟩
    · cases e; exact wpAny_pure (h _)
    · cases e; exact wpAny_pure (h _)
theorem flat_quiet {k : NestedKey} {v : Value} {Q : Bool → Shared → Prop} (x : FlatT s.heap k v) (h : Q true s) : wpAny (model P w) A (eqIsQuiet 8 v) Q E s := by
  obtain ⟨b, ks, rfl, rfl, ni, hd, _⟩ := x
  exact quiet_key _ _ 8 s ni hd A E Q h
theorem flat_eq {k k' : NestedKey} {v v' : Value} {Q : Bool → Shared → Prop} (hu : A.units + 8 < cLine) (x : FlatT s.heap k v) (y : FlatT s.heap k' v') (h : Q (decide (k = k')) s) : wpAny (model P w) A (eqBool v v') Q E s := by
  obtain ⟨b, ks, rfl, rfl, ni, hd, _⟩ := x
  obtain ⟨b', ks', rfl, rfl, ni', hd', _⟩ := y
  exact (nestedKind P w).eqBool (by exact hu) ⟨ni, hd⟩ ⟨ni', hd'⟩ h
/-- no search among flat tuples shows anything -/
theorem flat_seen {k : NestedKey} {b : Addr} {Q : Bool → Shared → Prop} (x : FlatT s.heap k (.ref b)) {ys : List Value} (hy : ∀ y ∈ ys, ∃ k' c, y = Value.ref c ∧ FlatT s.heap k' y) (h : Q false s) : wpAny (model P w) A (searchCouldBeSeen (.ref b) ys) Q E s := by
  unfold searchCouldBeSeen
  refine wpAny_bind (wpAny_forIn_list _ (fun rest r s' => r.1 = none ∧ s' = s ∧ ∀ y ∈ rest, ∃ k' c, y = Value.ref c ∧ FlatT s.heap k' y) _ ?_ ?_ _ _ ⟨rfl, rfl, hy⟩)
  · rintro v rest r s' ⟨hr, rfl, all⟩
    obtain ⟨k', c, rfl, y⟩ := all v List.mem_cons_self
    have all' : ∀ y ∈ rest, ∃ k' c, y = Value.ref c ∧ FlatT s'.heap k' y := fun u hu => all u (List.mem_cons_of_mem _ hu)
    dsimp only
    by_cases hv : (b == c || (carriedByValue (.ref b) && carriedByValue (.ref c))) = true
    · exact wp_if_pos hv (wpAny_pure ⟨rfl, rfl, all'⟩)
    · refine wp_if_neg hv (wpAny_bind (flat_quiet x ?_))
      simp only [Bool.not_true, Bool.false_eq_true, if_false]
      refine wpAny_bind (flat_quiet y ?_)
      simp only [Bool.not_true, Bool.false_eq_true, if_false]
      refine wpAny_bind (flat_cls x ?_)
      simp only [Bool.false_eq_true, if_false]
      refine wpAny_bind (flat_cls y ?_)
      simp only [Bool.false_eq_true, if_false]
      exact wpAny_pure ⟨rfl, rfl, all'⟩
  · rintro ⟨r1, r2⟩ s' ⟨hr, rfl, _⟩
    cases (show r1 = none from hr)
    exact wpAny_pure h
end
/-- the hash and the value of an element -/
def rowK (w : World) (p : Value × NestedKey) : Int × Value := (p.2.hash w, p.1)
structure TupS (w : World) (h : Heap) (a : Addr) (L : List (Value × NestedKey)) (es : Array (Int × Value)) (ep : Nat) (t : SetTable) : Prop where
  ob : ∃ o, h.get? a = some o ∧ o.ExactSet ∧ o.data = .set es ep t
  rows : es.toList = L.map (rowK w)
  tab : TabOk t (L.map fun p => p.2.hash w)
  nd : (L.map (·.2)).Nodup
  el : ∀ p ∈ L, FlatT h p.2 p.1
  led : w.params.followText "set-order" = true ∨ t.led = true
  room : L.length * 5 < t.mask * 3
  few : L.length < 64
section
variable {P : Program} {w : World} {A : Around} {E : Value → Shared → Prop} {s : Shared} {a : Addr} {L : List (Value × NestedKey)} {es : Array (Int × Value)} {ep : Nat} {t : SetTable}
theorem TupS.size {h : Heap} (R : TupS w h a L es ep t) : es.size = L.length := by rw [← Array.length_toList, R.rows, List.length_map]
theorem TupS.fits {h : Heap} (R : TupS w h a L es ep t) : t.fits es.size = true := by
  have h1 := R.tab.sz
  rw [List.length_map] at h1
  have h2 := R.size
  have h3 := R.room
  unfold SetTable.fits SetTable.fill
  rw [R.tab.dm, Bool.and_eq_true, beq_iff_eq, decide_eq_true_eq]
  exact ⟨by omega, by show t.place.size + 0 ≤ t.mask; omega⟩
theorem TupS.at {h : Heap} (R : TupS w h a L es ep t) {i : Nat} {p : Value × NestedKey} (e : L[i]? = some p) : es[i]? = some (rowK w p) := by
  rw [← Array.getElem?_toList, R.rows, List.getElem?_map, e]; rfl
theorem TupS.odd {h : Heap} (R : TupS w h a L es ep t) : ¬ t.gaveWay = true := by
  unfold SetTable.gaveWay
  rw [mask_odd R.tab.mok]; decide
abbrev prb (t : SetTable) (h : Int) (c : Nat) : SetTable.Probe := nth t.mask (runAt t.mask (SetTable.bits h % (t.mask + 1)) (SetTable.bits h)) c
theorem prb_dummy (m : Nat) : ∀ (n : Nat) (p : SetTable.Probe), p.dummy = none → (nth m p n).dummy = none
  | 0, _, h => h
  | n + 1, p, h => prb_dummy m n (adv m p) (by unfold adv; split <;> exact h)
/-- the search for a key, from the c-th place on its way -/
theorem tup_search (R : TupS w s.heap a L es ep t) {x : Value} {k : NestedKey} (hx : FlatT s.heap k x) (hu : A.units + 8 < cLine) {K : Nat} (hKf : K < 10 * SetTable.turns t.mask) (hK : way t.mask (k.hash w) K ∉ t.place.toList) (hKb : ∀ c, c < K → way t.mask (k.hash w) c ∈ t.place.toList)
    {Q : SetFound → Shared → Prop} (hin : k ∈ L.map (·.2) → Q (.there none) s) (hout : k ∉ L.map (·.2) → Q (.free (way t.mask (k.hash w) K) false) s) :
    ∀ (f c : Nat) (stand : Option SetTable.Probe), stand.getD (t.probeStart (k.hash w)) = prb t (k.hash w) c → c ≤ K → K - c < f → (∀ (i : Nat) p, L[i]? = some p → p.2 = k → ∃ c', c ≤ c' ∧ c' < K ∧ t.place.toList[i]? = some (way t.mask (k.hash w) c')) →
      wpAny (model P w) A (setSearchFrom a x (k.hash w) true f stand) Q E s
  | 0, _, _, _, _, hf, _ => absurd hf (Nat.not_lt_zero _)
  | f + 1, c, stand, hst, hc, hf, hre => by
    obtain ⟨o, ho, ex, hd⟩ := R.ob
    rw [setSearchFrom_succ]
    refine wpAny_bind (wpAny_setState_of ho hd R.fits (wp_if_neg R.odd ?_))
    have sh : ∀ q, nth t.mask (prb t (k.hash w) c) q = prb t (k.hash w) (c + q) := fun q => (nth_add t.mask c _ q).symm
    have wy : ∀ q, (nth t.mask (prb t (k.hash w) c) q).j = way t.mask (k.hash w) (c + q) := fun q => congrArg SetTable.Probe.j (sh q)
    have spec := go_spec t R.tab.ris R.tab.dm (fun i => (es[i]?.map (·.1)).getD 0) (k.hash w) (10 * SetTable.turns t.mask) (K - c) (prb t (k.hash w) c) (prb_dummy _ _ _ rfl) (by omega)
      (fun q hq => by rw [wy]; exact hKb (c + q) (by omega)) (by rw [wy, show c + (K - c) = K by omega]; exact hK)
    have hashAt : ∀ (i : Nat) p, L[i]? = some p → (es[i]?.map (·.1)).getD 0 = p.2.hash w := fun i p hp => by rw [R.at hp]; rfl
    rcases spec with ⟨q, i, hq, hi, hh, hno, hpr⟩ | ⟨hno, hpr⟩
    · have hpr' : t.probe (fun i => (es[i]?.map (·.1)).getD 0) (k.hash w) (stand.getD (t.probeStart (k.hash w))) = some (.candidate (way t.mask (k.hash w) (c + q)) i (prb t (k.hash w) (c + (q + 1)))) := by
        rw [hst, ← wy, ← sh]; exact hpr
      rw [hpr']
      dsimp only
      rw [wy] at hi
      have hil : i < L.length := by
        have h1 : i < t.place.toList.length := (List.getElem?_eq_some_iff.mp hi).1
        have h2 := R.tab.sz
        rw [List.length_map] at h2
        rw [Array.length_toList] at h1
        omega
      obtain ⟨p, hp⟩ : ∃ p, L[i]? = some p := ⟨_, List.getElem?_eq_getElem hil⟩
      have hmem : p ∈ L := List.mem_of_getElem? hp
      have rest : wpAny (model P w) A (searchRest a x (k.hash w) true f es t (way t.mask (k.hash w) (c + q)) i (prb t (k.hash w) (c + (q + 1)))) Q E s := by
        unfold searchRest
        rw [R.at hp]
        refine wpAny_bind (wpAny_holding (flat_eq hu (R.el p hmem) hx (wpAny_bind (wpAny_setState_of ho hd R.fits ?_))))
        dsimp only
        by_cases hkk : p.2 = k
        · exact wp_if_pos (by simp [hkk]) (wpAny_pure (hin (List.mem_map.mpr ⟨p, hmem, hkk⟩)))
        · refine wp_if_neg (by simp [hkk]) ?_
          try refine wpAny_bind (wpAny_pure ?_)
          rw [sameMem]
          dsimp only
          have hsl : t.slot (way t.mask (k.hash w) (c + q)) = .live i := slot_live R.tab.ris hi
          obtain ⟨b, ks, e1, _⟩ := R.el p hmem
          simp only [if_true, hsl, R.at hp, rowK, e1]
          refine wpAny_bind (wpAny_isSame_ref_self (wpAny_bind (wpAny_pure ?_)))
          simp only [if_true]
          refine wp_if_neg (by simp [hkk]) (tup_search R hx hu hKf hK hKb hin hout f (c + (q + 1)) _ rfl (by omega) (by omega) fun i0 p0 h0 hk0 => ?_)
          obtain ⟨c', a1, a2, a3⟩ := hre i0 p0 h0 hk0
          refine ⟨c', ?_, a2, a3⟩
          rcases Nat.lt_trichotomy c' (c + q) with z | z | z
          · refine absurd ((hashAt i0 p0 h0).trans (by rw [hk0])) (hno (c' - c) i0 (by omega) (by rw [wy, show c + (c' - c) = c' by omega]; exact a3))
          · rw [z] at a3
            have s0 := slot_live R.tab.ris a3
            rw [hsl] at s0
            injection s0 with s0
            rw [← s0, hp] at h0
            cases h0
            exact absurd hk0 hkk
          · omega
      by_cases hl : t.led = true
      · refine wp_if_neg (by simp [hl]) ?_
        try refine wpAny_bind (wpAny_pure ?_)
        exact rest
      · refine wp_if_pos (by simp [hl]) ?_
        obtain ⟨b, ks, rfl, r⟩ := hx
        refine wpAny_bind (flat_seen (k := k) ⟨b, ks, rfl, r⟩ (fun y hy => ?_) (wp_if_neg (by decide) ?_))
        · obtain ⟨e, he, ee⟩ := List.mem_map.mp hy
          have he1 : e ∈ es ∧ e.1 = k.hash w := by simpa using he
          have he2 : e ∈ es.toList := by simpa using he1.1
          rw [R.rows] at he2
          obtain ⟨p2, hp2, e2⟩ := List.mem_map.mp he2
          have x2 := R.el p2 hp2
          have ey : y = p2.1 := by rw [← ee, ← e2]; rfl
          obtain ⟨c, ks2, e3, r3⟩ := id x2
          exact ⟨p2.2, c, ey.trans e3, by rw [ey]; exact x2⟩
        · try refine wpAny_bind (wpAny_pure ?_)
          exact rest
    · have hpr' : t.probe (fun i => (es[i]?.map (·.1)).getD 0) (k.hash w) (stand.getD (t.probeStart (k.hash w))) = some (.empty (way t.mask (k.hash w) K) none) := by
        have e2 : way t.mask (k.hash w) K = (nth t.mask (prb t (k.hash w) c) (K - c)).j := by rw [wy, show c + (K - c) = K by omega]
        rw [hst, e2]; exact hpr
      rw [hpr']
      dsimp only
      refine wpAny_pure (hout fun hm => ?_)
      obtain ⟨p0, h0, hk0⟩ := List.mem_map.mp hm
      obtain ⟨i0, hi0, e0⟩ := List.getElem_of_mem h0
      have h00 : L[i0]? = some p0 := by rw [List.getElem?_eq_getElem hi0, e0]
      obtain ⟨c', a1, a2, a3⟩ := hre i0 p0 h00 hk0
      exact hno (c' - c) i0 (by omega) (by rw [wy, show c + (c' - c) = c' by omega]; exact a3) ((hashAt i0 p0 h00).trans (by rw [hk0]))
end
end TL

/-! T-layer, part S5: sets of flat tuples, adding. -/
namespace TL
open PySem PySem.Spec PyProof.Rows L2
theorem range_pick {α : Type} (L : List α) : ∀ n, n ≤ L.length → (List.range n).filterMap (fun i => L[i]?) = L.take n
  | 0, _ => rfl
  | n + 1, h => by
    rw [List.range_succ, List.filterMap_append, range_pick L n (by omega), take_snoc (List.getElem?_eq_getElem (show n < L.length by omega)), List.filterMap_cons_some (List.getElem?_eq_getElem (show n < L.length by omega))]
    rfl
theorem ins_perm {α : Type} (L : List α) (p : Nat) (x : α) : (L.take p ++ x :: L.drop p).Perm (x :: L) := by
  have h : (L.take p ++ x :: L.drop p).Perm (x :: (L.take p ++ L.drop p)) := List.perm_middle
  rwa [List.take_append_drop] at h
section
variable {P : Program} {w : World} {A : Around} {E : Value → Shared → Prop} {s : Shared} {a : Addr} {L : List (Value × NestedKey)} {es : Array (Int × Value)} {ep : Nat} {t : SetTable}
/-- the elements in another order -/
theorem rows_order (order : Array Nat) (hr : es.toList = L.map (rowK w)) (hp : order.toList.Perm (List.range L.length)) :
    ∃ L2 : List (Value × NestedKey), (order.filterMap (es[·]?)).toList = L2.map (rowK w) ∧ L2.Perm L ∧ (L2.map fun p => p.2.hash w) = order.toList.map fun i => (es.map (·.1)).getD i 0 := by
  have at_ : ∀ i p, L[i]? = some p → es[i]? = some (rowK w p) := fun i p e => by rw [← Array.getElem?_toList, hr, List.getElem?_map, e]; rfl
  have key : ∀ l : List Nat, (∀ i ∈ l, i < L.length) → l.filterMap (fun i => es[i]?) = (l.filterMap fun i => L[i]?).map (rowK w) ∧ ((l.filterMap fun i => L[i]?).map fun p => p.2.hash w) = l.map fun i => (es.map (·.1)).getD i 0 := by
    intro l
    induction l with
    | nil => intro _; exact ⟨rfl, rfl⟩
    | cons i l ih =>
      intro hl
      obtain ⟨e1, e2⟩ := ih fun j hj => hl j (List.mem_cons_of_mem _ hj)
      have hi := hl i List.mem_cons_self
      have hLi : L[i]? = some L[i] := List.getElem?_eq_getElem hi
      have hei := at_ i _ hLi
      rw [List.filterMap_cons_some hei, List.filterMap_cons_some hLi, List.map_cons, List.map_cons, List.map_cons, e1, e2]
      refine ⟨rfl, ?_⟩
      have e5 : (es.map (·.1))[i]? = some ((L[i]).2.hash w) := by rw [Array.getElem?_map, hei]; rfl
      have e4 : (es.map (·.1)).getD i 0 = (L[i]).2.hash w := by simp [Array.getD_eq_getD_getElem?, e5]
      rw [e4]
  obtain ⟨e1, e2⟩ := key order.toList fun i hi => List.mem_range.mp (hp.mem_iff.mp hi)
  refine ⟨order.toList.filterMap fun i => L[i]?, by rw [Array.toList_filterMap]; exact e1, ?_, e2⟩
  have h1 := hp.filterMap fun i => L[i]?
  rwa [range_pick L L.length (Nat.le_refl _), List.take_length] at h1
theorem FlatT.same {h h' : Heap} {k : NestedKey} {v : Value} {o : Obj} (x : FlatT h k v) (ho : h.get? a = some o) (hd : o.data = .set es ep t) (sb : Heap.SameBut a h h') : FlatT h' k v := x.keep fun b ob vs n hb hs => by
  refine (sb.2 b fun e => ?_).trans hb
  subst e
  rw [ho] at hb; cases hb
  rw [hd] at hs; cases hs
theorem tabOk_plain {hs : List Int} (T : TabOk t hs) (b : Bool) : TabOk { t with plain := b } hs := ⟨T.ris, T.dm, T.sz, T.mok, T.bd, T.reach⟩
/-- a larger table -/
theorem tup_relay {o : Obj} (ho : s.heap.get? a = some o) (ex : o.ExactSet) (hd : o.data = .set es ep t) (hr : es.toList = L.map (rowK w)) (hz : t.place.size = es.size) (dm : t.dummies = #[]) (hfl : es.size ≤ t.mask) (nd : (L.map (·.2)).Nodup) (el : ∀ p ∈ L, FlatT s.heap p.2 p.1)
    (ld : w.params.followText "set-order" = true ∨ t.led = true) (few : L.length < 64) {wanted M : Nat} (hw : SetTable.sizeAbove wanted - 1 = M) (hM : MaskOk M) (hw2 : SetTable.sizeAbove wanted ≤ 128) (hn : L.length * 5 < M * 3) {Q : Unit → Shared → Prop}
    (hQ : ∀ h' L' es' ep' t', Heap.SameBut a s.heap h' → TupS w h' a L' es' ep' t' → L'.Perm L → Q () { s with heap := h' }) : wpAny (model P w) A (setRelay a wanted) Q E s := by
  have z : es.size = L.length := by rw [← Array.length_toList, hr, List.length_map]
  have hfits : t.fits es.size = true := by
    unfold SetTable.fits SetTable.fill
    rw [dm, Bool.and_eq_true, beq_iff_eq, decide_eq_true_eq]
    exact ⟨hz, by show t.place.size + 0 ≤ t.mask; omega⟩
  obtain ⟨t', order, e, hp, T, em, el', _, _⟩ := relaid_ok t (hs := es.map (·.1)) (wanted := wanted) hw hM (by rw [Array.size_map, z]; omega)
  rw [Array.size_map, z] at hp
  obtain ⟨L2, r1, r2, r3⟩ := rows_order order hr hp
  rw [← r3] at T
  have z2 : (order.filterMap (es[·]?)).size = es.size := by rw [← Array.length_toList, r1, List.length_map, r2.length_eq, z]
  rw [setRelay_eq]
  refine wpAny_bind (wpAny_setState_of ho hd hfits (wp_if_neg (by rw [sizeLine_eq]; omega) ?_))
  try refine wpAny_bind (wpAny_pure ?_)
  rw [e]
  dsimp only
  refine wpAny_bind (wp_if_neg (by rw [z2]; simp) ?_)
  try refine wpAny_bind (wpAny_pure ?_)
  refine wpAny_pure (wpAny_storeSet_of ho hd ?_ (by rw [z2, z, sizeLine_eq]; omega))
  have sb : Heap.SameBut a s.heap (s.heap.update a (Obj.putSet (order.filterMap (es[·]?)) t')) := Heap.SameBut.update ..
  refine hQ _ L2 _ (ep + 1) t' sb ⟨⟨_, store_at ho hd, ⟨ex.1, ex.2.1, ex.2.2⟩, rfl⟩, r1, T, (r2.map (·.2)).nodup_iff.mpr nd, fun p hp => (el p (r2.mem_iff.mp hp)).same ho hd sb, by rw [el']; exact ld, by rw [r2.length_eq, em]; exact hn, by rw [r2.length_eq]; exact few⟩ r2
theorem tup_add (R : TupS w s.heap a L es ep t) {x : Value} {k : NestedKey} (hx : FlatT s.heap k x) (hu : A.units + 8 < cLine) (hfew : L.length + 1 < 64) {Q : Bool → Shared → Prop}
    (hQ : ∀ b h' L' es' ep' t', Heap.SameBut a s.heap h' → TupS w h' a L' es' ep' t' → (k ∈ L.map (·.2) → L' = L) → (k ∉ L.map (·.2) → L'.Perm ((x, k) :: L)) → Q b { s with heap := h' }) : wpAny (model P w) A (setAddHashed a x (k.hash w)) Q E s := by
  obtain ⟨o, ho, ex, hd⟩ := R.ob
  have z := R.size
  have hroom := R.room
  unfold setAddHashed
  rw [show (100000 : Nat) = 99999 + 1 from rfl, setAddHashedIn_succ]
  refine wpAny_holding (wpAny_bind (wpAny_setState_of ho hd R.fits ?_))
  dsimp only
  have nsc : byScan x es = false := by
    obtain ⟨b, ks, rfl, _⟩ := hx
    simp [byScan, Value.scannable]
  refine wp_if_neg (by rw [nsc]; decide) ?_
  try refine wpAny_bind (wpAny_pure ?_)
  obtain ⟨K, hKf, hK, hKb⟩ := R.tab.first (by rw [List.length_map]; omega) (k.hash w)
  have hbig : K < 100000 := by
    have : 10 * SetTable.turns t.mask ≤ 1420 := by
      unfold SetTable.turns
      rcases R.tab.mok with e | e | e <;> omega
    omega
  unfold setSearch
  refine wpAny_bind (tup_search R hx hu hKf hK hKb (fun hm => ?_) (fun hm => ?_) 100000 0 none rfl (Nat.zero_le _) (by omega) fun i p hp hk => ?_)
  · exact wpAny_pure (hQ false s.heap L es ep t (Heap.SameBut.refl a s.heap) R (fun _ => rfl) fun c => absurd hm c)
  · dsimp only
    refine wpAny_bind (wpAny_setState_of ho hd R.fits ?_)
    dsimp only
    obtain ⟨q1, q2, q3, q4, q5, q6, q7, q8, q9⟩ := R.tab.put hK hKb
    generalize hpt : t.put (way t.mask (k.hash w) K) = pt at q1 q3 q4 q5 q6 q7 q8 q9 ⊢
    obtain ⟨t1, p⟩ := pt
    dsimp only at q1 q3 q4 q5 q6 q7 q8 q9 ⊢
    subst q1
    have rows1 : (SetTable.insertAt es (SetTable.below t.place (way t.mask (k.hash w) K)) (k.hash w, x)).toList = (L.take (SetTable.below t.place (way t.mask (k.hash w) K)) ++ (x, k) :: L.drop (SetTable.below t.place (way t.mask (k.hash w) K))).map (rowK w) := by
      rw [SetTable.toList_insertAt, R.rows, List.map_append, List.map_cons, List.map_take, List.map_drop]; rfl
    generalize SetTable.below t.place (way t.mask (k.hash w) K) = p at q2 q3 rows1 ⊢
    have pm := ins_perm L p (x, k)
    have hlen : (L.take p ++ (x, k) :: L.drop p).length = L.length + 1 := pm.length_eq
    have hhs : (L.take p ++ (x, k) :: L.drop p).map (fun p => p.2.hash w) = (L.map fun p => p.2.hash w).take p ++ k.hash w :: (L.map fun p => p.2.hash w).drop p := by rw [List.map_append, List.map_cons, List.map_take, List.map_drop]
    rw [← hhs] at q3
    have nd1 : ((L.take p ++ (x, k) :: L.drop p).map (·.2)).Nodup := (pm.map (·.2)).nodup_iff.mpr (List.nodup_cons.mpr ⟨hm, R.nd⟩)
    have hes : (SetTable.insertAt es p (k.hash w, x)).size = L.length + 1 := by rw [← Array.length_toList, rows1, List.length_map, hlen]
    generalize SetTable.insertAt es p (k.hash w, x) = es1 at rows1 hes ⊢
    generalize L.take p ++ (x, k) :: L.drop p = L1 at pm hlen q3 nd1 rows1
    have fin : ∀ t2 : SetTable, TabOk t2 (L1.map fun p => p.2.hash w) → t2.mask = t1.mask → t2.led = t1.led → t2.tooFull = t1.tooFull →
        wpAny (model P w) A (do
          storeSet a es1 t2
          if (!false && t2.tooFull) = true then do
            setRelay a (SetTable.grown (es.size + 1))
            pure true
          else pure true) Q E s := by
      intro t2 T2 em el2 etf
      refine wpAny_bind (wpAny_storeSet_of ho hd ?_ (by rw [hes, sizeLine_eq]; omega))
      have sb : Heap.SameBut a s.heap (s.heap.update a (Obj.putSet es1 t2)) := Heap.SameBut.update ..
      have ho1 := store_at (es' := es1) (t' := t2) ho hd
      generalize s.heap.update a (Obj.putSet es1 t2) = h1 at sb ho1 ⊢
      have el1 : ∀ p ∈ L1, FlatT h1 p.2 p.1 := fun p hp => by
        rcases List.mem_cons.mp (pm.mem_iff.mp hp) with e | hp
        · rw [e]; exact hx.same ho hd sb
        · exact (R.el p hp).same ho hd sb
      have ld1 : w.params.followText "set-order" = true ∨ t2.led = true := by rw [el2, q5]; exact R.led
      have full : t2.tooFull = true ↔ (L.length + 1) * 5 ≥ t1.mask * 3 := by
        rw [etf]
        unfold SetTable.tooFull
        rw [decide_eq_true_eq, q9, List.length_map]
      by_cases hf : t2.tooFull = true
      · have hfull := full.mp hf
        have z1 : t2.place.size = es1.size := by have h := T2.sz; rw [List.length_map, hlen] at h; rw [h, hes]
        have cs : (t.mask = 7 ∧ L.length = 4) ∨ (t.mask = 31 ∧ L.length = 18) := by
          rw [q4] at hfull
          rcases R.tab.mok with e | e | e
          · left; rw [e] at hfull hroom; exact ⟨e, by omega⟩
          · right; rw [e] at hfull hroom; exact ⟨e, by omega⟩
          · exfalso; rw [e] at hfull; omega
        have go : ∀ M, SetTable.sizeAbove (SetTable.grown (L.length + 1)) - 1 = M → MaskOk M → SetTable.sizeAbove (SetTable.grown (L.length + 1)) ≤ 128 → (L.length + 1) * 5 < M * 3 →
            wpAny (model P w) A (setRelay a (SetTable.grown (L.length + 1))) (fun _ s' => wpAny (model P w) A (pure true) Q E s') E { s with heap := h1 } := fun M h1' h2' h3' h4' => by
          refine tup_relay (s := { s with heap := h1 }) ho1 ⟨ex.1, ex.2.1, ex.2.2⟩ rfl rows1 z1 T2.dm (by rw [hes, em, q4]; rcases cs with ⟨e, e2⟩ | ⟨e, e2⟩ <;> omega) nd1 el1 ld1 (by rw [hlen]; exact hfew) h1' h2' h3' (by rw [hlen]; exact h4') ?_
          intro h2 L2 es2 ep2 t3 sb2 R2 pm2
          exact wpAny_pure (hQ true h2 L2 es2 ep2 t3 (sb.trans sb2) R2 (fun c => absurd c hm) fun _ => pm2.trans pm)
        refine wp_if_pos (by simp [hf]) (wpAny_bind ?_)
        rw [z]
        rcases cs with ⟨_, e2⟩ | ⟨_, e2⟩
        · refine go 31 (by rw [e2, size_20]) (.inr (.inl rfl)) (by rw [e2, size_20]; decide) (by omega)
        · refine go 127 (by rw [e2, size_76]) (.inr (.inr rfl)) (by rw [e2, size_76]; decide) (by omega)
      · refine wp_if_neg (by simp [hf]) (wpAny_pure (hQ true h1 L1 es1 (ep + 1) t2 sb ⟨⟨_, ho1, ⟨ex.1, ex.2.1, ex.2.2⟩, rfl⟩, rows1, T2, nd1, el1, ld1, ?_, by rw [hlen]; exact hfew⟩ (fun c => absurd c hm) fun _ => pm))
        have hnf : ¬ ((L.length + 1) * 5 ≥ t1.mask * 3) := fun c => hf (full.mpr c)
        rw [hlen, em]
        omega
    by_cases hp1 : t1.plain = true
    · refine wp_if_pos hp1 (wpAny_bind (flat_hash hx fun b => ?_))
      cases b
      · exact fin { t1 with plain := false } (tabOk_plain q3 false) rfl rfl rfl
      · exact fin t1 q3 rfl rfl rfl
    · refine wp_if_neg hp1 (wpAny_bind (wpAny_pure ?_))
      exact fin t1 q3 rfl rfl rfl
  · have hi : (L.map fun p => p.2.hash w)[i]? = some (k.hash w) := by rw [List.getElem?_map, hp, ← hk]; rfl
    have hil : i < t.place.toList.length := by
      have h1 : i < L.length := (List.getElem?_eq_some_iff.mp hp).1
      have h2 := R.tab.sz
      rw [List.length_map] at h2
      rw [Array.length_toList]
      omega
    have hj := List.getElem?_eq_getElem hil
    obtain ⟨c, hc, e⟩ := R.tab.before hK hi hj
    exact ⟨c, Nat.zero_le _, hc, by rw [hj, e]⟩
/-- sets of flat tuples -/
def tupKind (P : Program) (w : World) : SKind P w NestedKey where
  St := fun h a L => ∃ es ep t, TupS w h a L es ep t
  El := FlatT
  room := fun A => A.units + 8 < cLine
  fresh := fun {h a} e => ⟨#[], 0, _, ⟨⟨_, e, ⟨rfl, rfl, rfl⟩, rfl⟩, rfl, ⟨List.Pairwise.nil, rfl, rfl, .inl rfl, fun x hx => (by cases hx), fun i h j hi => (by simp at hi)⟩, List.nodup_nil, fun p hp => (by cases hp), (by
    show _ ∨ (!w.params.followText "set-order") = true
    cases w.params.followText "set-order"
    · exact .inr rfl
    · exact .inl rfl), (by show 0 * 5 < 7 * 3; decide), (by show 0 < 64; decide)⟩⟩
  keep := fun ⟨es, ep, t, R⟩ ka el => ⟨es, ep, t, ⟨let ⟨o, ho, r⟩ := R.ob; ⟨o, ka o ho, r⟩, R.rows, R.tab, R.nd, el, R.led, R.room, R.few⟩⟩
  elk := fun x hk => x.keep fun b o _ _ e _ => hk b o e
  add := fun {A E s a L v k Q} hu ⟨es, ep, t, R⟩ el few h => by
    unfold setAdd
    obtain ⟨b, ks, e1, e2, ni, hd, hl⟩ := id el
    subst e1
    refine wpAny_holding (wpAny_bind (pyHash_key k (.ref b) A s _ ni (by omega) ?_))
    exact tup_add (s := { s with toks := s.toks + k.draws }) R el hu few fun b h' L' es' ep' t' sb R' c1 c2 => h b h' _ L' (Nat.le_add_right _ _) sb ⟨es', ep', t', R'⟩ c1 c2
  raw := fun ⟨es, ep, t, R⟩ => ⟨R.few, R.nd, let ⟨o, ho, ex, hd⟩ := R.ob; ⟨o, es, ep, t, ho, ex, hd, R.fits, R.tab.ris, R.led, by rw [R.rows, List.map_map]; rfl⟩⟩
end
end TL

/-! T-layer, part S6: sorted(set(x)), len(set(x)) as expressions. -/
namespace TL
open PySem PySem.Spec PyProof.Rows L2
/-! ### one of each -/
def uniq {α : Type} [DecidableEq α] : List α → List α
  | [] => []
  | x :: l => x :: (uniq l).filter fun y => decide (y ≠ x)
theorem mem_uniq {α : Type} [DecidableEq α] {x : α} : ∀ {l : List α}, x ∈ uniq l ↔ x ∈ l
  | [] => Iff.rfl
  | y :: l => by
    unfold uniq
    rw [List.mem_cons, List.mem_cons, List.mem_filter, mem_uniq (l := l)]
    by_cases h : x = y <;> simp [h]
theorem nodup_uniq {α : Type} [DecidableEq α] : ∀ (l : List α), (uniq l).Nodup
  | [] => List.nodup_nil
  | y :: l => by
    unfold uniq
    refine List.nodup_cons.mpr ⟨fun h => ?_, (nodup_uniq l).filter _⟩
    have := (List.mem_filter.mp h).2
    simp at this
theorem perm_uniq {α : Type} [DecidableEq α] {ks l : List α} (nd : ks.Nodup) (h : ∀ x, x ∈ ks ↔ x ∈ l) : ks.Perm (uniq l) := (List.perm_ext_iff_of_nodup nd (nodup_uniq l)).mpr fun x => (h x).trans mem_uniq.symm
theorem uniq_self {α : Type} [DecidableEq α] : ∀ {l : List α}, l.Nodup → uniq l = l
  | [], _ => rfl
  | x :: l, h => by
    obtain ⟨h1, h2⟩ := List.nodup_cons.mp h
    unfold uniq
    rw [uniq_self h2, List.filter_eq_self.mpr]
    intro y hy
    exact decide_eq_true fun e => h1 (e ▸ hy)
/-! ### orders -/
structure Lin {α : Type} (le : α → α → Bool) : Prop where
  total : ∀ a b, (le a b || le b a) = true
  trans : ∀ a b c, le a b = true → le b c = true → le a c = true
  anti : ∀ a b, le a b = true → le b a = true → a = b
theorem Lin.same {α : Type} {le : α → α → Bool} (h : Lin le) {l l' : List α} (p : l.Perm l') : l.mergeSort le = l'.mergeSort le := by
  refine List.Perm.eq_of_pairwise (le := fun a b => le a b = true) (fun a b _ _ => h.anti a b) (List.pairwise_mergeSort h.trans h.total l) (List.pairwise_mergeSort h.trans h.total l') ?_
  exact (List.mergeSort_perm l le).trans (p.trans (List.mergeSort_perm l' le).symm)
def leS (a b : Str) : Bool := decide (a.cps.toList ≤ b.cps.toList)
def ltS (a b : Str) : Bool := decide (a.cps.toList < b.cps.toList)
theorem leS_not (a b : Str) : leS a b = !ltS b a := by
  unfold leS ltS
  by_cases h : b.cps.toList < a.cps.toList
  · rw [decide_eq_true h, decide_eq_false (List.not_le.mpr h)]; rfl
  · rw [decide_eq_false h, decide_eq_true (List.not_lt.mp h)]; rfl
theorem lin_S : Lin leS where
  total a b := by
    rcases List.le_total (l₁ := a.cps.toList) (l₂ := b.cps.toList) with h | h <;> simp [leS, h]
  trans a b c h1 h2 := by
    simp only [leS, decide_eq_true_eq] at *
    exact List.le_trans h1 h2
  anti a b h1 h2 := by
    simp only [leS, decide_eq_true_eq] at *
    have e := List.le_antisymm h1 h2
    cases a; cases b
    simpa using e
def leI (a b : Int) : Bool := decide (a ≤ b)
theorem lin_I : Lin leI where
  total a b := by simp only [leI, Bool.or_eq_true, decide_eq_true_eq]; omega
  trans a b c h1 h2 := by simp only [leI, decide_eq_true_eq] at *; omega
  anti a b h1 h2 := by simp only [leI, decide_eq_true_eq] at *; omega
def leP (p q : Str × Str) : Bool := if p.1 = q.1 then leS p.2 q.2 else leS p.1 q.1
theorem lin_P : Lin leP where
  total a b := by
    unfold leP
    by_cases h : a.1 = b.1
    · rw [if_pos h, if_pos h.symm]; exact lin_S.total _ _
    · rw [if_neg h, if_neg (Ne.symm h)]; exact lin_S.total _ _
  trans a b c h1 h2 := by
    unfold leP at *
    by_cases e1 : a.1 = b.1
    · rw [if_pos e1] at h1
      by_cases e2 : b.1 = c.1
      · rw [if_pos e2] at h2
        rw [if_pos (e1.trans e2)]; exact lin_S.trans _ _ _ h1 h2
      · rw [if_neg e2] at h2
        rw [if_neg (fun z => e2 (e1.symm.trans z)), e1]; exact h2
    · rw [if_neg e1] at h1
      by_cases e2 : b.1 = c.1
      · rw [if_pos e2] at h2
        rw [if_neg (fun z => e1 (z.trans e2.symm)), ← e2]; exact h1
      · rw [if_neg e2] at h2
        by_cases e3 : a.1 = c.1
        · exact absurd (lin_S.anti _ _ h1 (e3 ▸ h2)) e1
        · rw [if_neg e3]; exact lin_S.trans _ _ _ h1 h2
  anti a b h1 h2 := by
    unfold leP at *
    by_cases e : a.1 = b.1
    · rw [if_pos e] at h1
      rw [if_pos e.symm] at h2
      exact Prod.ext e (lin_S.anti _ _ h1 h2)
    · rw [if_neg e] at h1
      rw [if_neg (Ne.symm e)] at h2
      exact absurd (lin_S.anti _ _ h1 h2) e
/-! ### the elements of a list -/
def pairT : T → Option (Str × Str)
  | .tup [.str x, .str y] => some (x, y)
  | _ => none
def pairsT : List T → Option (List (Str × Str))
  | [] => some []
  | t :: r => match pairT t, pairsT r with
    | some p, some ps => some (p :: ps)
    | _, _ => none
abbrev ofPair (p : Str × Str) : T := .tup [.str p.1, .str p.2]
theorem pairsT_of : ∀ {ts : List T} {ps : List (Str × Str)}, pairsT ts = some ps → ts = ps.map ofPair
  | [], _, h => by cases h; rfl
  | t :: r, ps, h => by
    unfold pairsT at h
    split at h
    · rename_i p qs h1 h2
      cases h
      rw [pairsT_of h2]
      have : t = ofPair p := by
        unfold pairT at h1
        split at h1
        · cases h1; rfl
        · cases h1
      rw [this]; rfl
    · cases h
theorem strsT_of : ∀ {ts : List T} {xs : List Str}, strsT ts = some xs → ts = xs.map T.str
  | [], _, h => by cases h; rfl
  | .str x :: r, _, h => by
    simp only [strsT, Option.map_eq_some_iff] at h
    obtain ⟨ys, h1, h2⟩ := h
    subst h2
    rw [strsT_of h1]; rfl
theorem intsOf_of : ∀ {ts : List T} {xs : List Int}, intsOf ts = some xs → ts = xs.map T.int
  | [], _, h => by simp [intsOf] at h; subst h; rfl
  | .int x :: r, _, h => by
    simp only [intsOf, Option.map_eq_some_iff] at h
    obtain ⟨ys, h1, h2⟩ := h
    subst h2
    rw [intsOf_of h1]; rfl
/-- the values and what they are the keys of -/
theorem zip_map {α β : Type} {us : List α} {ks : List β} (h : us.length = ks.length) : us = (us.zip ks).map (·.1) ∧ ks = (us.zip ks).map (·.2) := by
  rw [List.map_fst_zip (by omega), List.map_snd_zip (by omega)]
  exact ⟨rfl, rfl⟩
section
variable {X : Cx} {EO : EOb} {pins : List (Addr × Obj)} {σ : L2.St} {H : Hp} {s : Shared} {m : List Addr} {th : TH}
theorem el_key {ks : List Key} {us : List Value} (r : Vals (ks.map kV) us) : us.length = ks.length ∧ ∀ p ∈ us.zip ks, RelV (kV p.2) p.1 := by
  induction ks generalizing us with
  | nil => cases r; exact ⟨rfl, fun p hp => by cases hp⟩
  | cons k ks ih =>
    cases r with
    | cons a b =>
      obtain ⟨h1, h2⟩ := ih b
      refine ⟨by simp [h1], fun p hp => ?_⟩
      rcases List.mem_cons.mp hp with e | hp
      · rw [e]; exact a
      · exact h2 p hp
theorem el_pair (I : Inv X pins σ H s) {ps : List (Str × Str)} {vs : List V} {us : List Value} (vr : VRs X.K m H (ps.map ofPair) vs) (r : Vals vs us) : us.length = ps.length ∧ ∀ p ∈ us.zip ps, FlatT s.heap (.tup [.text p.2.1, .text p.2.2]) p.1 ∧ (∃ v, RelV v p.1 ∧ VR X.K m H (ofPair p.2) v) ∧
    Reads s.heap p.1 (.tuple [.str p.2.1, .str p.2.2]) [] := by
  induction ps generalizing vs us with
  | nil => cases vr; cases r; exact ⟨rfl, fun p hp => by cases hp⟩
  | cons q ps ih =>
    cases vr with
    | cons a b =>
    cases r with
    | cons c d =>
      obtain ⟨h1, h2⟩ := ih b d
      refine ⟨by simp [h1], fun p hp => ?_⟩
      rcases List.mem_cons.mp hp with e | hp
      · rw [e]
        have a0 := a
        have c0 := c
        cases a with
        | tup g1 g2 =>
          cases c
          obtain ⟨its, rv, ⟨o, ho, hc, n, hd⟩, _⟩ := I.tuple g1.t
          cases g2 with
          | cons x1 g2 =>
          cases g2 with
          | cons x2 g2 =>
          cases g2
          cases x1
          cases x2
          cases rv with
          | cons y1 rv =>
          cases rv with
          | cons y2 rv =>
          cases rv
          obtain ⟨t1, rfl⟩ := y1
          obtain ⟨t2, rfl⟩ := y2
          refine ⟨⟨_, _, rfl, rfl, .tup ho hc hd (.cons (.text _ _) (.cons (.text _ _) .nil)), by simp [NestedKey.depth, NestedKey.depthAll], fun x hx => ?_⟩, ⟨_, c0, a0⟩, .tuple ho hc hd (.cons (.str _ _) (.cons (.str _ _) .nil))⟩
          rcases List.mem_cons.mp hx with e | hx
          · rw [e]; rfl
          · rw [List.mem_singleton.mp hx]; rfl
      · exact h2 p hp
/-- what is done with a set of the items -/
def OnSet (X : Cx) (EO : EOb) (id : String) (g : T → TH → Res T) : Prop := ∀ (pins : List (Addr × Obj)) (s : Shared) (σ : L2.St) (H : Hp) (m : List Addr) (th : TH) (t : T) (v : V) (u : Value) (Q : VK), Inv X pins σ H s → Rel (gc X) m th H → VR X.K m H t v → RelV v u → WT (gc X) EO m H (g t th) Q →
  wpAny (model X.prog X.w) X.A (call (.type "set") [u]) (fun sv s2 => wpAny (model X.prog X.w) X.A (call (.builtin id) [sv]) (EP X pins σ Q) X.xe s2) X.xe s
theorem de_onSet {id : String} {g : T → TH → Res T} {x : Str} {e : Expr} {d : ME} {p q p2 pos : Pos} (on : OnSet X EO id g) (hm : X.mg x = none) (hv : bootBuiltins x = some (.builtin id)) (hm2 : X.mg "set" = none) (h : DE X EO e d) (hg : Gl X x := by rfl) (hg2 : Gl X "set" := by rfl)
    (na : starEach [e] X.env = (false, eval e X.env) :: starEach [] X.env := by rfl) (hn : x ≠ "__name__" := by decide) (hd : (x == ("__debug__" : Str)) = false := by decide) : DE X EO (.Call (.Name x p) [.Call (.Name "set" q) [e] [] p2] [] pos) (eUn g d) := by
  refine ⟨⟨fun pins s σ H Q I ⟨m, σt, th, sr, R, w⟩ => ?_⟩⟩
  refine Call_ (ld_blt (hn := hn) (hd := hd) I hg hm hv (PyProof.Rows.callWith_builtin1 (PyProof.Rows.args_cons (Call_ (ld_blt I hg2 hm2 boot_set (PyProof.Rows.callWith_type1 (PyProof.Rows.args_cons (thn (h.pe.run pins s σ H (fun v H1 => ∃ m1 th1 t, Rel (gc X) m1 th1 H1 ∧ VR X.K m1 H1 t v ∧ WT (gc X) EO m1 H1 (g t th1) Q) I
    ⟨m, σt, th, sr, R, w.bind.imp fun t th1 m1 H1 x R1 h1 v vr => ⟨m1, th1, t, R1, vr, h1⟩⟩) fun v s1 ⟨y, H1, I1, r1, m1, th1, t, R1, vr, w1⟩ => PyProof.Rows.args_nil ?_) na) na rfl))) rfl) rfl rfl))
  exact thn (on pins s1 σ H1 m1 th1 t y v Q I1 R1 vr r1 w1) fun sv s2 h2 => PyProof.Rows.args_nil h2
def fSortSet : T → TH → Res T := fun t h => match itemsOf h t with
  | some l => if l.length < 64 then (match strsT l with
    | some xs => .ok (.ref h.length) (h ++ [.lst (((uniq xs).mergeSort leS).map T.str)])
    | none => match intsOf l with
      | some ns => .ok (.ref h.length) (h ++ [.lst (((uniq ns).mergeSort leI).map T.int)])
      | none => match pairsT l with
        | some ps => .ok (.ref h.length) (h ++ [.lst (((uniq ps).mergeSort leP).map ofPair)])
        | none => .stuck) else .stuck
  | none => .stuck
def fLenSet : T → TH → Res T := fun t h => match itemsOf h t with
  | some l => if l.length < 64 then (match strsT l with
    | some xs => .ok (.int (uniq xs).length) h
    | none => match intsOf l with
      | some ns => .ok (.int (uniq ns).length) h
      | none => match pairsT l with
        | some ps => .ok (.int (uniq ps).length) h
        | none => .stuck) else .stuck
  | none => .stuck
/-- the items, made a set of -/
theorem set_of {K : Type} (kd : SKind X.prog X.w K) {t : T} {v : V} {u : Value} {l : List T} {ks : List K} {Q : Value → Shared → Prop} (hc : X.calm = true) (hu : kd.room X.A.in1.in1.in1) (I : Inv X pins σ H s) (R : Rel (gc X) m th H) (vr : VR X.K m H t v) (ru : RelV v u) (e : itemsOf th t = some l) (hl : l.length < 64)
    (hk : ∀ vs us, VRs X.K m H l vs → Vals vs us → us.length = ks.length ∧ ∀ p ∈ us.zip ks, kd.El s.heap p.2 p.1)
    (h : ∀ (vs : List V) (us : List Value) (h' : Heap) (tk : Nat) (L : List (Value × K)), VRs X.K m H l vs → Vals vs us → kd.St h' s.heap.objs.size L → (∀ p ∈ L, p ∈ us.zip ks) → (L.map (·.2)).Nodup → (∀ k, k ∈ L.map (·.2) ↔ k ∈ ks) → (∀ b o, s.heap.get? b = some o → h'.get? b = some o) → Q (.ref s.heap.objs.size) { s with heap := h', toks := tk }) :
    wpAny (model X.prog X.w) X.A (call (.type "set") [u]) Q X.xe s := by
  obtain ⟨a, vs, ev, hq, vrs⟩ := items_sq (G := gc X) R vr e
  subst ev
  cases ru
  have key : ∀ {its : List Value}, Vals vs its → (s.heap.IsList a its.toArray ∨ s.heap.IsTuple a its.toArray) → wpAny (model X.prog X.w) X.A (call (.type "set") [Value.ref a]) Q X.xe s := by
    intro its rv hs
    obtain ⟨h1, h2⟩ := hk vs its vrs rv
    obtain ⟨z1, z2⟩ := zip_map h1
    have zl : (its.zip ks).length = ks.length := by rw [List.length_zip, h1, Nat.min_self]
    refine make_set kd (its.zip ks) (I.ok.hd hc) hs (by simpa using z1) h2 (by rw [zl, ← h1, ← rv.length, ← vrs.length]; exact hl) hu fun h' tk L st g k => ?_
    refine h vs its h' tk L vrs rv st (fun p hp => List.mem_of_mem_take (g.sub p hp)) g.nd (fun x => ⟨fun hx => ?_, fun hx => ?_⟩) k
    · obtain ⟨p, hp, rfl⟩ := List.mem_map.mp hx
      rw [z2]
      exact List.mem_map.mpr ⟨p, List.mem_of_mem_take (g.sub p hp), rfl⟩
    · rw [z2] at hx
      obtain ⟨p, hp, rfl⟩ := List.mem_map.mp hx
      exact g.all p (by rw [List.take_length]; exact hp)
  rcases hq with hq | hq
  · obtain ⟨its, rv, p, _⟩ := I.list hq
    exact key rv (.inl p.isList)
  · obtain ⟨its, rv, p, _⟩ := I.tuple hq
    exact key rv (.inr p)
/-- the sorted list, laid -/
theorem sorted_of {K : Type} (kd : SKind X.prog X.w K) {Q : VK} {h' : Heap} {tk : Nat} {L : List (Value × K)} {a : Addr} {enc : K → PyData} {toT : K → T} {C : List K} (hc : X.calm = true) (hu : X.A.units + 66 < cLine) (I : Inv X pins σ H s) (R : Rel (gc X) m th H) (k1 : ∀ b o, s.heap.get? b = some o → h'.get? b = some o) (st : kd.St h' a L)
    (hR : ∀ p ∈ L, ∃ v, RelV v p.1 ∧ VR X.K m H (toT p.2) v) (hrd : ∀ p ∈ L, Reads h' p.1 (enc p.2) []) (hal : ∀ k ∈ L.map (·.2), ∀ k' ∈ L.map (·.2), PySem.W.alike (enc k) (enc k') = true) (hk : ∀ ks : List K, (∀ k ∈ ks, k ∈ L.map (·.2)) → PySem.W.Sortable (ks.map enc)) (hd : ∀ k ∈ L.map (·.2), (enc k).depth ≤ 60)
    (hC : ∀ ks : List K, ks.Perm (L.map (·.2)) → ks.mergeSort (PySem.W.dataLe false enc) = C) (w : WT (gc X) EO m H (.ok (.ref th.length) (th ++ [.lst (C.map toT)])) Q) :
    wpAny (model X.prog X.w) X.A (call (.builtin "sorted") [.ref a]) (EP X pins σ Q) X.xe { s with heap := h', toks := tk } := by
  have I1 : Inv X pins σ H { s with heap := h', toks := tk } := I.kept k1
  refine sorted_kd kd (s := { s with heap := h', toks := tk }) st (I.ok.hd hc) (R := fun u k => RelVT X.K m H u (toT k)) (enc := enc) hR (fun p hp => ⟨[], hrd p hp, fun b hb => by cases hb⟩) hal hk (fun k hk' => by have := hd k hk'; omega) fun s' q out c ks k2 g o hq hg pm E2 => ?_
  rw [hC ks pm] at E2
  have E3 : PySem.W.EachIs (RelVT X.K m H) out (C.map toT) := by
    clear hg hC w
    induction E2 with
    | nil => exact .nil
    | cons a b ih => exact .cons a ih
  obtain ⟨zs, v1, v2⟩ := of_each E3
  have hn : H q = none := I1.hok.fresh hq
  have hlC : C.length ≤ sizeLine := by
    rw [← hC ks pm, (List.mergeSort_perm ks _).length_eq, pm.length_eq, List.length_map, sizeLine_eq]
    have := (kd.raw st).1
    omega
  have lz : zs.length ≤ sizeLine := by rw [← v1.length, List.length_map]; exact hlC
  have J := I1.call (H' := upd H q (.lst zs)) (h' := s'.heap) (g' := s'.gens) (d' := s'.drawn) (t' := s'.toks) (ch := []) (Un.laid k2 hq hn) (I1.hok.laid k2 hq ⟨lz, out, c, v2, hg⟩) (by rw [g]; exact I1.bare) (fun _ z => nomatch z)
  have e : s' = { s with heap := s'.heap, gens := s'.gens, drawn := s'.drawn, toks := s'.toks } := by
    cases s'; cases s; cases o; rfl
  rw [e]
  obtain ⟨w1, w2⟩ := lst_new R hn v1 w
  exact ⟨.ref q, _, J, rfl, w1 _ w2⟩
end
theorem key_scn : ∀ {k : Key} {u : Value}, RelV (kV k) u → u.scannable = true
  | .inl _, _, ⟨_, e⟩ => by rw [e]; rfl
  | .inr _, _, ⟨_, e⟩ => by rw [e]; rfl
def encK : Key → PyData
  | .inl i => .int i
  | .inr x => .str x
theorem le_encS (x y : Str) : leS x y = PySem.W.dataLe false encK (.inr x) (.inr y) := by
  rw [leS_not]
  show _ = !PySem.W.dataLt (.str y) (.str x)
  rw [PySem.W.dataLt_str]; rfl
theorem le_encI (x y : Int) : leI x y = PySem.W.dataLe false encK (.inl x) (.inl y) := by
  show _ = !PySem.W.dataLt (.int y) (.int x)
  rw [PySem.W.dataLt_int]
  unfold leI
  by_cases h : y < x
  · rw [decide_eq_true h, decide_eq_false (by omega)]; rfl
  · rw [decide_eq_false h, decide_eq_true (by omega)]; rfl
def toTN : NestedKey → T
  | .tup [.text x, .text y] => .tup [.str x, .str y]
  | _ => .non
def encN : NestedKey → PyData
  | .tup [.text x, .text y] => .tuple [.str x, .str y]
  | _ => .none
abbrev pk (p : Str × Str) : NestedKey := .tup [.text p.1, .text p.2]
theorem le_encP (p q : Str × Str) : leP p q = PySem.W.dataLe false encN (pk p) (pk q) := by
  show _ = !PySem.W.dataLt (.tuple [.str q.1, .str q.2]) (.tuple [.str p.1, .str p.2])
  rw [PySem.W.dataLt_pair rfl rfl, PySem.W.dataLt_str, PySem.W.dataLt_str]
  have e1 : ∀ x y : Str, PyData.eqv (.str x) (.str y) = decide (x = y) := fun x y => by
    unfold PyData.eqv
    by_cases h : x = y <;> simp [h]
  rw [e1, e1]
  unfold leP
  by_cases h : p.1 = q.1
  · rw [if_pos h, if_pos (by simp [h]), leS_not]
    by_cases h2 : p.2 = q.2
    · rw [if_pos (by simp [h2])]
      have : ltS q.2 p.2 = false := by rw [h2]; unfold ltS; exact decide_eq_false (List.lt_irrefl _)
      rw [this]
    · rw [if_neg (by simpa using Ne.symm h2)]; rfl
  · rw [if_neg h, if_neg (by simpa using Ne.symm h), leS_not]; rfl
theorem sort_map {α K : Type} [DecidableEq α] {le : α → α → Bool} {f : α → K} {enc : K → PyData} (lin : Lin le) (h : ∀ a b, le a b = PySem.W.dataLe false enc (f a) (f b)) {l : List α} {ks : List K} (p : ks.Perm ((uniq l).map f)) : ks.mergeSort (PySem.W.dataLe false enc) = ((uniq l).mergeSort le).map f := by
  obtain ⟨l', e, p'⟩ := perm_map f p (uniq l) rfl
  rw [e, ← lin.same p', List.map_mergeSort fun a _ b _ => h a b]
theorem inr_inj {x y : Str} (h : (Sum.inr x : Key) = .inr y) : x = y := Sum.inr.inj h
theorem nodup_map {α β : Type} {f : α → β} (hf : ∀ a b, f a = f b → a = b) : ∀ {l : List α}, l.Nodup → (l.map f).Nodup
  | [], _ => List.nodup_nil
  | x :: l, h => by
    obtain ⟨h1, h2⟩ := List.nodup_cons.mp h
    refine List.nodup_cons.mpr ⟨fun hm => ?_, nodup_map hf h2⟩
    obtain ⟨y, hy, e⟩ := List.mem_map.mp hm
    exact h1 (hf _ _ e ▸ hy)
theorem perm_uniq_map {α K : Type} [DecidableEq α] {f : α → K} (hf : ∀ a b, f a = f b → a = b) {ks : List K} {l : List α} (nd : ks.Nodup) (h : ∀ k, k ∈ ks ↔ k ∈ l.map f) : ks.Perm ((uniq l).map f) := by
  refine (List.perm_ext_iff_of_nodup nd (nodup_map hf (nodup_uniq l))).mpr fun k => (h k).trans ⟨fun hk => ?_, fun hk => ?_⟩
  · obtain ⟨a, ha, e⟩ := List.mem_map.mp hk
    exact List.mem_map.mpr ⟨a, mem_uniq.mpr ha, e⟩
  · obtain ⟨a, ha, e⟩ := List.mem_map.mp hk
    exact List.mem_map.mpr ⟨a, mem_uniq.mp ha, e⟩
theorem pk_inj (a b : Str × Str) (h : pk a = pk b) : a = b := by
  simp only [NestedKey.tup.injEq, List.cons.injEq, NestedKey.text.injEq, and_true] at h
  exact Prod.ext h.1 h.2
section
variable {X : Cx} {EO : EOb}
theorem on_sorted (hc : X.calm = true) (hu : X.A.units + 66 < cLine) : OnSet X EO "sorted" fSortSet := by
  intro pins s σ H m th t v u Q I R vr ru w
  unfold fSortSet at w
  split at w
  · rename_i l el
    split at w
    · rename_i hl
      split at w
      · rename_i xs hx
        refine set_of (m := m) (th := th) (H := H) (ks := xs.map Sum.inr) (scanKind X.prog X.w) hc True.intro I R vr ru el hl (fun vs us a b => ?_) fun vs us h' tk L a b st g nd mem k => ?_
        · have e := strsT_R a hx
          subst e
          obtain ⟨z1, z2⟩ := el_key (ks := xs.map Sum.inr) (us := us) (by rw [List.map_map]; exact b)
          exact ⟨z1, fun p hp => ⟨kV_is (z2 p hp), key_scn (z2 p hp)⟩⟩
        · have e := strsT_R a hx
          subst e
          obtain ⟨z1, z2⟩ := el_key (ks := xs.map Sum.inr) (us := us) (by rw [List.map_map]; exact b)
          have str : ∀ p ∈ L, ∃ x, p.2 = .inr x := fun p hp => by
            have q := (mem p.2).mp (List.mem_map.mpr ⟨p, hp, rfl⟩)
            obtain ⟨x, _, e⟩ := List.mem_map.mp q
            exact ⟨x, e.symm⟩
          have strk : ∀ k ∈ L.map (·.2), ∃ x, k = .inr x := fun k hk => by
            obtain ⟨p, hp, rfl⟩ := List.mem_map.mp hk
            exact str p hp
          refine sorted_of (EO := EO) (m := m) (th := th) (H := H) (scanKind X.prog X.w) (enc := encK) (toT := keyT) (C := ((uniq xs).mergeSort leS).map Sum.inr) hc hu I R k st (fun p hp => ?_) (fun p hp => ?_) (fun k1 h1 k2 h2 => ?_) (fun ks h1 => ?_) (fun k1 h1 => ?_) (fun ks pm => ?_) ?_
          · obtain ⟨x, e⟩ := str p hp
            have r := z2 p (g p hp)
            rw [e] at r ⊢
            exact ⟨_, r, .str x⟩
          · obtain ⟨x, e⟩ := str p hp
            have r := z2 p (g p hp)
            rw [e] at r ⊢
            obtain ⟨tk, e2⟩ := r
            rw [e2]
            exact .str _ _
          · obtain ⟨x, rfl⟩ := strk k1 h1
            obtain ⟨y, rfl⟩ := strk k2 h2
            rfl
          · refine .inr fun d hd => ?_
            obtain ⟨k, hk, rfl⟩ := List.mem_map.mp hd
            obtain ⟨x, rfl⟩ := strk k (h1 k hk)
            exact ⟨(fun z => nomatch z), fun ys z => nomatch z⟩
          · obtain ⟨x, rfl⟩ := strk k1 h1
            exact Nat.zero_le _
          · exact sort_map lin_S le_encS (pm.trans (perm_uniq_map (fun a b h => inr_inj h) nd mem))
          · rw [List.map_map]; exact w
      · rename_i hx
        split at w
        · rename_i ns hn
          refine set_of (m := m) (th := th) (H := H) (ks := ns.map Sum.inl) (scanKind X.prog X.w) hc True.intro I R vr ru el hl (fun vs us a b => ?_) fun vs us h' tk L a b st g nd mem k => ?_
          · have e := intsOf_vr a hn
            subst e
            obtain ⟨z1, z2⟩ := el_key (ks := ns.map Sum.inl) (us := us) (by rw [List.map_map]; exact b)
            exact ⟨z1, fun p hp => ⟨kV_is (z2 p hp), key_scn (z2 p hp)⟩⟩
          · have e := intsOf_vr a hn
            subst e
            obtain ⟨z1, z2⟩ := el_key (ks := ns.map Sum.inl) (us := us) (by rw [List.map_map]; exact b)
            have str : ∀ p ∈ L, ∃ x, p.2 = .inl x := fun p hp => by
              have q := (mem p.2).mp (List.mem_map.mpr ⟨p, hp, rfl⟩)
              obtain ⟨x, _, e⟩ := List.mem_map.mp q
              exact ⟨x, e.symm⟩
            have strk : ∀ k ∈ L.map (·.2), ∃ x, k = .inl x := fun k hk => by
              obtain ⟨p, hp, rfl⟩ := List.mem_map.mp hk
              exact str p hp
            refine sorted_of (EO := EO) (m := m) (th := th) (H := H) (scanKind X.prog X.w) (enc := encK) (toT := keyT) (C := ((uniq ns).mergeSort leI).map Sum.inl) hc hu I R k st (fun p hp => ?_) (fun p hp => ?_) (fun k1 h1 k2 h2 => ?_) (fun ks h1 => ?_) (fun k1 h1 => ?_) (fun ks pm => ?_) ?_
            · obtain ⟨x, e⟩ := str p hp
              have r := z2 p (g p hp)
              rw [e] at r ⊢
              exact ⟨_, r, .int x⟩
            · obtain ⟨x, e⟩ := str p hp
              have r := z2 p (g p hp)
              rw [e] at r ⊢
              obtain ⟨tk, e2⟩ := r
              rw [e2]
              exact .int _ _
            · obtain ⟨x, rfl⟩ := strk k1 h1
              obtain ⟨y, rfl⟩ := strk k2 h2
              rfl
            · refine .inr fun d hd => ?_
              obtain ⟨k, hk, rfl⟩ := List.mem_map.mp hd
              obtain ⟨x, rfl⟩ := strk k (h1 k hk)
              exact ⟨(fun z => nomatch z), fun ys z => nomatch z⟩
            · obtain ⟨x, rfl⟩ := strk k1 h1
              exact Nat.zero_le _
            · exact sort_map lin_I le_encI (pm.trans (perm_uniq_map (fun a b h => Sum.inl.inj h) nd mem))
            · rw [List.map_map]; exact w
        · split at w
          · rename_i ps hp
            have elr : l = ps.map ofPair := pairsT_of hp
            subst elr
            refine set_of (m := m) (th := th) (H := H) (ks := ps.map pk) (tupKind X.prog X.w) hc (by show X.A.in1.in1.in1.units + 8 < cLine; have e3 : X.A.in1.in1.in1.units = X.A.units + 3 := rfl; omega) I R vr ru el hl (fun vs us a b => ?_) fun vs us h' tk L a b st g nd mem k => ?_
            · obtain ⟨z1, z2⟩ := el_pair I a b
              refine ⟨by rw [List.length_map]; exact z1, fun p hp => ?_⟩
              rw [List.zip_map_right] at hp
              obtain ⟨q, hq, rfl⟩ := List.mem_map.mp hp
              exact (z2 q hq).1
            · obtain ⟨z1, z2⟩ := el_pair I a b
              have one : ∀ p ∈ L, ∃ q ∈ us.zip ps, p = (q.1, pk q.2) := fun p hp => by
                have q := g p hp
                rw [List.zip_map_right] at q
                obtain ⟨q, hq, e⟩ := List.mem_map.mp q
                exact ⟨q, hq, e.symm⟩
              have onek : ∀ k ∈ L.map (·.2), ∃ q, k = pk q := fun k hk => by
                obtain ⟨p, hp, rfl⟩ := List.mem_map.mp hk
                obtain ⟨q, _, e⟩ := one p hp
                exact ⟨q.2, by rw [e]⟩
              refine sorted_of (EO := EO) (m := m) (th := th) (H := H) (tupKind X.prog X.w) (enc := encN) (toT := toTN) (C := ((uniq ps).mergeSort leP).map pk) hc hu I R k st (fun p hp => ?_) (fun p hp => ?_) (fun k1 h1 k2 h2 => ?_) (fun ks h1 => ?_) (fun k1 h1 => ?_) (fun ks pm => ?_) ?_
              · obtain ⟨q, hq, rfl⟩ := one p hp
                exact (z2 q hq).2.1
              · obtain ⟨q, hq, rfl⟩ := one p hp
                exact PyProof.Rows.Reads.keeps k (z2 q hq).2.2
              · obtain ⟨x, rfl⟩ := onek k1 h1
                obtain ⟨y, rfl⟩ := onek k2 h2
                rfl
              · refine .inl fun d hd => ?_
                obtain ⟨k, hk, rfl⟩ := List.mem_map.mp hd
                obtain ⟨x, rfl⟩ := onek k (h1 k hk)
                exact ⟨_, _, rfl⟩
              · obtain ⟨x, rfl⟩ := onek k1 h1
                simp [encN, PyData.depth, PyData.depthAll]
              · exact sort_map lin_P le_encP (pm.trans (perm_uniq_map (fun a b h => pk_inj a b h) nd mem))
              · rw [List.map_map]; exact w
          · exact w.elim
    · exact w.elim
  · exact w.elim
theorem on_len (hc : X.calm = true) (hu : X.A.units + 66 < cLine) : OnSet X EO "len" fLenSet := by
  intro pins s σ H m th t v u Q I R vr ru w
  have fin : ∀ {K : Type} (kd : SKind X.prog X.w K) {L : List (Value × K)} {h' : Heap} {tk n : Nat}, kd.St h' s.heap.objs.size L → L.length = n → (∀ b o, s.heap.get? b = some o → h'.get? b = some o) → WT (gc X) EO m H (.ok (.int n) th) Q →
      wpAny (model X.prog X.w) X.A (call (.builtin "len") [.ref s.heap.objs.size]) (EP X pins σ Q) X.xe { s with heap := h', toks := tk } := by
    intro K kd L h' tk n st e k w
    subst e
    exact len_kd kd (s := { s with heap := h', toks := tk }) st fun tk2 => ⟨.int _, H, I.kept (t' := tk2 + 1) k, ⟨_, rfl⟩, Pn.done w R _ (.int _)⟩
  unfold fLenSet at w
  split at w
  · rename_i l el
    split at w
    · rename_i hl
      split at w
      · rename_i xs hx
        refine set_of (m := m) (th := th) (H := H) (ks := xs.map Sum.inr) (scanKind X.prog X.w) hc True.intro I R vr ru el hl (fun vs us a b => ?_) fun vs us h' tk L a b st g nd mem k => ?_
        · have e := strsT_R a hx
          subst e
          obtain ⟨z1, z2⟩ := el_key (ks := xs.map Sum.inr) (us := us) (by rw [List.map_map]; exact b)
          exact ⟨z1, fun p hp => ⟨kV_is (z2 p hp), key_scn (z2 p hp)⟩⟩
        · refine fin (scanKind X.prog X.w) st ?_ k w
          have := (perm_uniq_map (fun a b h => inr_inj h) nd mem).length_eq
          simpa using this
      · rename_i hx
        split at w
        · rename_i ns hn
          refine set_of (m := m) (th := th) (H := H) (ks := ns.map Sum.inl) (scanKind X.prog X.w) hc True.intro I R vr ru el hl (fun vs us a b => ?_) fun vs us h' tk L a b st g nd mem k => ?_
          · have e := intsOf_vr a hn
            subst e
            obtain ⟨z1, z2⟩ := el_key (ks := ns.map Sum.inl) (us := us) (by rw [List.map_map]; exact b)
            exact ⟨z1, fun p hp => ⟨kV_is (z2 p hp), key_scn (z2 p hp)⟩⟩
          · refine fin (scanKind X.prog X.w) st ?_ k w
            have := (perm_uniq_map (fun a b h => Sum.inl.inj h) nd mem).length_eq
            simpa using this
        · split at w
          · rename_i ps hp
            have elr : l = ps.map ofPair := pairsT_of hp
            subst elr
            refine set_of (m := m) (th := th) (H := H) (ks := ps.map pk) (tupKind X.prog X.w) hc (by show X.A.in1.in1.in1.units + 8 < cLine; have e3 : X.A.in1.in1.in1.units = X.A.units + 3 := rfl; omega) I R vr ru el hl (fun vs us a b => ?_) fun vs us h' tk L a b st g nd mem k => ?_
            · obtain ⟨z1, z2⟩ := el_pair I a b
              refine ⟨by rw [List.length_map]; exact z1, fun p hp => ?_⟩
              rw [List.zip_map_right] at hp
              obtain ⟨q, hq, rfl⟩ := List.mem_map.mp hp
              exact (z2 q hq).1
            · refine fin (tupKind X.prog X.w) st ?_ k w
              have := (perm_uniq_map (fun a b h => pk_inj a b h) nd mem).length_eq
              simpa using this
          · exact w.elim
    · exact w.elim
  · exact w.elim
theorem room66 {k : Nat} {A : Around} (r : Room k A) : A.units + 66 < cLine := by have := r.un; omega
variable {e : Expr} {d : ME} {p q p2 pos : Pos} {k : Nat}
theorem de_sortSet (hm : X.mg "sorted" = none) (hm2 : X.mg "set" = none) (hc : X.calm = true) (hr : Room k X.A) (h : DE X EO e d) (hg : Gl X "sorted" := by rfl) (hg2 : Gl X "set" := by rfl) (na : starEach [e] X.env = (false, eval e X.env) :: starEach [] X.env := by rfl) :
    DE X EO (.Call (.Name "sorted" p) [.Call (.Name "set" q) [e] [] p2] [] pos) (eUn fSortSet d) := de_onSet (on_sorted hc (room66 hr)) hm boot_sorted hm2 h hg hg2 na
theorem de_lenSet (hm : X.mg "len" = none) (hm2 : X.mg "set" = none) (hc : X.calm = true) (hr : Room k X.A) (h : DE X EO e d) (hg : Gl X "len" := by rfl) (hg2 : Gl X "set" := by rfl) (na : starEach [e] X.env = (false, eval e X.env) :: starEach [] X.env := by rfl) :
    DE X EO (.Call (.Name "len" p) [.Call (.Name "set" q) [e] [] p2] [] pos) (eUn fLenSet d) := de_onSet (on_len hc (room66 hr)) hm boot_len hm2 h hg hg2 na
end
end TL

/-! T-layer, part P: what loops and comprehensions give; what the laws share. -/
namespace TL
open PySem PySem.Spec PyProof.Rows L2
/-! ### loops that run over fixed things -/
/-- what is walked stays the same -/
def Fix (J : MIt) (ys : List Yv) (I : TH → Prop) : Prop := ∀ i h, I h → J i h = some (ys[i]?)
/-- a comprehension: I holds throughout; each turn tests to p, makes f -/
theorem lcN_eq {J : MIt} {g : MG} {t : MB} {e : ME} {σ0 : Sl} {ys : List Yv} {I : TH → Prop} {p : Yv → Bool} {f : Yv → T} (hJ : Fix J ys I)
    (hb : ∀ y ∈ ys, ∀ h, I h → ∃ σ1 h1 h2, g y σ0 h = .ok σ1 h1 ∧ t σ1 h1 = .ok (p y) h2 ∧ I h2 ∧ (p y = true → ∃ h3, e σ1 h2 = .ok (f y) h3 ∧ I h3)) :
    ∀ (n i : Nat) (h : TH) (acc : List T), ys.length - i < n → acc.length + (ys.length - i) ≤ sizeLine → I h → ∃ h', lcN J g t e σ0 n i h acc = .ok (acc ++ ((ys.drop i).filter p).map f) h' ∧ I h'
  | 0, i, h, acc, hn, _, _ => absurd hn (Nat.not_lt_zero _)
  | n + 1, i, h, acc, hn, hs, hI => by
    unfold lcN
    rw [hJ i h hI]
    cases hy : ys[i]? with
    | none =>
      have : ys.length ≤ i := List.getElem?_eq_none_iff.mp hy
      exact ⟨h, by simp [List.drop_eq_nil_of_le this], hI⟩
    | some y =>
      have hi : i < ys.length := (List.getElem?_eq_some_iff.mp hy).1
      have ey : ys[i] = y := (List.getElem?_eq_some_iff.mp hy).2
      have hd : ys.drop i = y :: ys.drop (i + 1) := by rw [List.drop_eq_getElem_cons hi, ey]
      obtain ⟨σ1, h1, h2, e1, e2, I2, e3⟩ := hb y (List.mem_of_getElem? hy) h hI
      simp only [e1, e2, bind_ok]
      cases hp : p y with
      | false =>
        obtain ⟨h', e4, I4⟩ := lcN_eq hJ hb n (i + 1) h2 acc (by omega) (by omega) I2
        refine ⟨h', ?_, I4⟩
        rw [if_neg (by decide), e4, hd, List.filter_cons_of_neg (by simp [hp])]
      | true =>
        obtain ⟨h3, e5, I3⟩ := e3 hp
        obtain ⟨h', e4, I4⟩ := lcN_eq hJ hb n (i + 1) h3 (acc ++ [f y]) (by omega) (by simp; omega) I3
        refine ⟨h', ?_, I4⟩
        rw [if_pos rfl, e5, bind_ok, if_pos (by omega), e4, hd, List.filter_cons_of_pos hp]
        simp
theorem eLc_eq {it : MI} {g : MG} {t : MB} {e : ME} {vs : List Nat} {σ : Sl} {h h1 : TH} {J : MIt} {ys : List Yv} {I : TH → Prop} {p : Yv → Bool} {f : Yv → T} (hit : it σ h = .ok J h1) (hJ : Fix J ys I) (hI : I h1) (hl : ys.length ≤ 1000000)
    (hb : ∀ y ∈ ys, ∀ h, I h → ∃ σ1 h1 h2, g y (wipeT σ vs) h = .ok σ1 h1 ∧ t σ1 h1 = .ok (p y) h2 ∧ I h2 ∧ (p y = true → ∃ h3, e σ1 h2 = .ok (f y) h3 ∧ I h3)) :
    ∃ h', eLc it g t e vs σ h = .ok (.ref h'.length) (h' ++ [.lst ((ys.filter p).map f)]) ∧ I h' := by
  obtain ⟨h', e1, e2⟩ := lcN_eq (p := p) (f := f) hJ hb FU 0 h1 [] (by unfold FU; omega) (by rw [sizeLine_eq]; simp; omega) hI
  refine ⟨h', ?_, e2⟩
  unfold eLc
  simp only [hit, bind_ok, e1]
  simp
/-- a loop: Iv at each turn -/
theorem forN_eq {J : MIt} {g : MG} {b : MS} {ys : List Yv} {Iv : Nat → Sl → TH → Prop} (hJ : ∀ i σ h, Iv i σ h → J i h = some (ys[i]?))
    (hb : ∀ i y, ys[i]? = some y → ∀ σ h, Iv i σ h → ∃ σ1 h1 σ2 h2, g y σ h = .ok σ1 h1 ∧ (b σ1 h1 = .nx σ2 h2 ∨ b σ1 h1 = .ct σ2 h2) ∧ Iv (i + 1) σ2 h2) :
    ∀ (n i : Nat) (σ : Sl) (h : TH), ys.length - i < n → i ≤ ys.length → Iv i σ h → ∃ σ' h', forN J g b n i σ h = .nx σ' h' ∧ Iv ys.length σ' h'
  | 0, _, _, _, hn, _, _ => absurd hn (Nat.not_lt_zero _)
  | n + 1, i, σ, h, hn, hi, hI => by
    unfold forN
    rw [hJ i σ h hI]
    cases hy : ys[i]? with
    | none =>
      have e : i = ys.length := by have := List.getElem?_eq_none_iff.mp hy; omega
      subst e
      exact ⟨σ, h, rfl, hI⟩
    | some y =>
      have hlt : i < ys.length := (List.getElem?_eq_some_iff.mp hy).1
      obtain ⟨σ1, h1, σ2, h2, e1, e2, I2⟩ := hb i y hy σ h hI
      obtain ⟨σ', h', e3, I3⟩ := forN_eq hJ hb n (i + 1) σ2 h2 (by omega) hlt I2
      refine ⟨σ', h', ?_, I3⟩
      simp only [e1, of_ok]
      rcases e2 with e2 | e2 <;> simp only [e2] <;> exact e3
/-- the same, a turn may break: then Dn -/
theorem forN_brk {J : MIt} {g : MG} {b : MS} {ys : List Yv} {Iv : Nat → Sl → TH → Prop} {Dn : Sl → TH → Prop} (hJ : ∀ i σ h, Iv i σ h → J i h = some (ys[i]?)) (hd : ∀ σ h, Iv ys.length σ h → Dn σ h)
    (hb : ∀ i y, ys[i]? = some y → ∀ σ h, Iv i σ h → ∃ σ1 h1 σ2 h2, g y σ h = .ok σ1 h1 ∧ (((b σ1 h1 = .nx σ2 h2 ∨ b σ1 h1 = .ct σ2 h2) ∧ Iv (i + 1) σ2 h2) ∨ (b σ1 h1 = .bk σ2 h2 ∧ Dn σ2 h2))) :
    ∀ (n i : Nat) (σ : Sl) (h : TH), ys.length - i < n → i ≤ ys.length → Iv i σ h → ∃ σ' h', forN J g b n i σ h = .nx σ' h' ∧ Dn σ' h'
  | 0, _, _, _, hn, _, _ => absurd hn (Nat.not_lt_zero _)
  | n + 1, i, σ, h, hn, hi, hI => by
    unfold forN
    rw [hJ i σ h hI]
    cases hy : ys[i]? with
    | none =>
      have e : i = ys.length := by have := List.getElem?_eq_none_iff.mp hy; omega
      subst e
      exact ⟨σ, h, rfl, hd σ h hI⟩
    | some y =>
      have hlt : i < ys.length := (List.getElem?_eq_some_iff.mp hy).1
      obtain ⟨σ1, h1, σ2, h2, e1, e2⟩ := hb i y hy σ h hI
      rcases e2 with ⟨e2, I2⟩ | ⟨e2, D2⟩
      · obtain ⟨σ', h', e3, I3⟩ := forN_brk hJ hd hb n (i + 1) σ2 h2 (by omega) hlt I2
        refine ⟨σ', h', ?_, I3⟩
        simp only [e1, of_ok]
        rcases e2 with e2 | e2 <;> simp only [e2] <;> exact e3
      · refine ⟨σ2, h2, ?_, D2⟩
        simp only [e1, of_ok, e2]
def rngY (lo : Int) (n : Nat) : List Yv := (List.range n).map fun i => .val (.int (lo + (i : Nat)))
theorem rng_fix {lo : Int} {n : Nat} (i : Nat) (h : TH) : itRng lo n i h = some ((rngY lo n)[i]?) := by
  unfold itRng rngY
  rw [List.getElem?_map]
  by_cases hi : i < n
  · rw [if_pos hi, List.getElem?_range hi]; rfl
  · rw [if_neg hi, List.getElem?_eq_none (by simpa using hi)]; rfl
theorem rngY_at {lo : Int} {n i : Nat} {y : Yv} (h : (rngY lo n)[i]? = some y) : i < n ∧ y = .val (.int (lo + (i : Nat))) := by
  unfold rngY at h
  rw [List.getElem?_map] at h
  by_cases hi : i < n
  · rw [List.getElem?_range hi] at h
    simp at h
    exact ⟨hi, h.symm⟩
  · rw [List.getElem?_eq_none (by simpa using hi)] at h; simp at h
theorem rngY_len (lo : Int) (n : Nat) : (rngY lo n).length = n := by simp [rngY]

/-! ### what all laws share -/
def b_cell : MS := sSeq (sIf (mB (eBin fLt (eVar 1) (eCall fLen (aCons (eVar 0) (aNil))))) (sRet (eBin fIx (eVar 0) (eVar 1))) (sNil)) (sRet (eC (.int 0)))
def F_cell : Fn := runB b_cell 0
theorem atI_nn {α : Type} {xs : List α} {k : Int} (h0 : 0 ≤ k) (h1 : k < xs.length) : atI xs k = some (xs[k.toNat]'(by omega)) := by
  unfold atI ixN
  rw [if_pos h0, if_pos h1]
  simp
theorem cell_eq (ns : List Int) (k : Int) (h : TH) (h0 : 0 ≤ k) : ∃ c, F_cell [.scr ns, .int k] h = .ok (.int c) h := by
  by_cases hk : k < ns.length
  · refine ⟨ns[k.toNat]'(by omega), ?_⟩
    have e : atI (ns.map T.int) k = some (.int (ns[k.toNat]'(by omega))) := by
      rw [atI_nn h0 (by simpa using hk)]; simp
    simp [F_cell, b_cell, runB, sSeq, sIf, SRes.of, SRes.then, mB, eBin, eVar, eCall, aCons, aNil, fLen, itemsOf, fLt, fLtB, hk, sRet, fIx, e, sNil, eC]
  · refine ⟨0, ?_⟩
    simp [F_cell, b_cell, runB, sSeq, sIf, SRes.of, SRes.then, mB, eBin, eVar, eCall, aCons, aNil, fLen, itemsOf, fLt, fLtB, hk, sRet, fIx, sNil, eC]
theorem get_last (h : TH) (x : TO) : (h ++ [x])[h.length]? = some x := by simp
theorem set_last (h : TH) (x y : TO) : (h ++ [x]).set h.length y = h ++ [y] := by
  simp [List.set_append]
def Dg (ds : List Int) : Prop := ∀ x ∈ ds, 0 ≤ x ∧ x < 1000
theorem Dg.snoc {ds : List Int} (h : Dg ds) {x : Int} (h0 : 0 ≤ x) (h1 : x < 1000) : Dg (ds ++ [x]) := fun y hy => by
  rcases List.mem_append.mp hy with z | z
  · exact h y z
  · rw [List.mem_singleton.mp z]; exact ⟨h0, h1⟩
theorem append_eq {h : TH} {ds : List Int} {x : Int} (hl : ds.length < 1000000) : fAppend (.ref h.length) [.int x] (h ++ [.lst (ds.map T.int)]) = .ok .non (h ++ [.lst ((ds ++ [x]).map T.int)]) := by
  unfold fAppend
  simp only [get_last]
  rw [if_pos (by rw [sizeLine_eq, List.length_map]; omega), set_last]
  simp
def b_in1 : MS := sIf (mB (eBin fGt (eVar 5) (eC (.int 0)))) (sSeq (sExpr (eMth msAppend (eVar 3) (aCons (eBin fMod (eCall fInt (aCons (eVar 5) (aNil))) (eC (.int 1000))) (aNil)))) (sSet 5 (eBin fDiv (eVar 5) (eC (.int 1000))))) (sNil)
def b_in2 : MS := sSeq (sSet 7 (eBin fMod (eCall fInt (aCons (eBin fAdd (eBin fAdd (eBin fMul (eVar 7) (eC (.int 16807))) (eBin fMul (eC (.int 7)) (eVar 6))) (eC (.int 1))) (aNil))) (eC (.int 2147483647)))) (sExpr (eMth msAppend (eVar 3) (aCons (eBin fMod (eCall fInt (aCons (eBin fDiv (eVar 7) (eC (.int 997))) (aNil))) (eC (.int 1000))) (aNil))))
def b_dg : MS := (sSeq (sSet 5 (eCallF 2 F_cell (aCons (eVar 0) (aCons (eVar 4) (aNil))))) (sSeq (sIf (mB (eBin fLt (eVar 5) (eC (.int 0)))) (sSet 5 (eBin fSub (eC (.int 1)) (eBin fMul (eC (.int 2)) (eVar 5)))) (sNil)) (sSeq (sIf (mB (eBin fGt (eCall fLen (aCons (eVar 3) (aNil))) (eC (.int 1500)))) (sBreak) (sNil)) (sIf (mB (eBin fGe (eVar 5) (eBin fPow (eC (.int 10)) (eC (.int 18))))) (sFor (iR1 (aCons (eC (.int 60)) (aNil))) (gName 6) b_in1) (sSeq (sSet 7 (eBin fMod (eCall fInt (aCons (eBin fAdd (eBin fAdd (eBin fMul (eVar 5) (eC (.int 48271))) (eBin fMul (eVar 4) (eC (.int 69621)))) (eC (.int 11))) (aNil))) (eC (.int 2147483647)))) (sFor (iR1 (aCons (eC (.int 12)) (aNil))) (gName 6) b_in2))))))
def b_digits : MS := sSeq (sSet 3 (eLst (aNil))) (sSeq (sFor (iR2 (aCons (eVar 1) (aCons (eVar 2) (aNil)))) (gName 4) b_dg) (sRet (eVar 3)))
def F_digits : Fn := runB b_digits 5
/-- the slots while the digits are made -/
def dgS (ns : List Int) (d : Nat) (k : Int) (c : Int) (o6 o7 : Option T) : Sl := [some (.scr ns), some (.int 0), some (.int 63), some (.ref d), some (.int k), some (.int c), o6, o7]
theorem in1_eq (ns : List Int) (h0 : TH) (k : Int) (o7 : Option T) (j : Nat) (o6 : Option T) (c : Int) (ds : List Int) (hd : Dg ds) (hl : ds.length < 900000) :
    ∃ c' ds', b_in1 (dgS ns h0.length k c o6 o7) (h0 ++ [.lst (ds.map T.int)]) = .nx (dgS ns h0.length k c' o6 o7) (h0 ++ [.lst (ds'.map T.int)]) ∧ Dg ds' ∧ ds'.length ≤ ds.length + 1 := by
  by_cases hc : 0 < c
  · refine ⟨c / 1000, ds ++ [c % 1000], ?_, hd.snoc (by omega) (by omega), by simp⟩
    have e := append_eq (h := h0) (ds := ds) (x := c % 1000) (by omega)
    simp [b_in1, dgS, sSeq, sIf, SRes.of, SRes.then, mB, eBin, eVar, eC, fGt, hc, sExpr, eMth, rcv, msAppend, aCons, aNil, eCall, fInt, fMod, e, sSet, fDiv]
  · refine ⟨c, ds, ?_, hd, by omega⟩
    simp [b_in1, dgS, sSeq, sIf, SRes.of, SRes.then, mB, eBin, eVar, eC, fGt, hc, sNil]
theorem in2_eq (ns : List Int) (h0 : TH) (k c : Int) (o7 : Int) (j : Int) (ds : List Int) (hd : Dg ds) (hl : ds.length < 900000) :
    ∃ s' ds', b_in2 (dgS ns h0.length k c (some (.int j)) (some (.int o7))) (h0 ++ [.lst (ds.map T.int)]) = .nx (dgS ns h0.length k c (some (.int j)) (some (.int s'))) (h0 ++ [.lst (ds'.map T.int)]) ∧ Dg ds' ∧ ds'.length ≤ ds.length + 1 := by
  refine ⟨(o7 * 16807 + 7 * j + 1) % 2147483647, ds ++ [(o7 * 16807 + 7 * j + 1) % 2147483647 / 997 % 1000], ?_, hd.snoc (by omega) (by omega), by simp⟩
  have e := append_eq (h := h0) (ds := ds) (x := (o7 * 16807 + 7 * j + 1) % 2147483647 / 997 % 1000) (by omega)
  simp [b_in2, dgS, sSeq, SRes.of, SRes.then, eBin, eVar, eC, sExpr, eMth, rcv, msAppend, aCons, aNil, eCall, fInt, fMod, fMul, fAdd, e, sSet, fDiv]
theorem dg_in1 (ns : List Int) (h0 : TH) (k c : Int) (o6 o7 : Option T) (ds : List Int) (hd : Dg ds) (hl : ds.length < 800000) :
    ∃ c' o6' ds', sFor (iR1 (aCons (eC (.int 60)) (aNil))) (gName 6) b_in1 (dgS ns h0.length k c o6 o7) (h0 ++ [.lst (ds.map T.int)]) = .nx (dgS ns h0.length k c' o6' o7) (h0 ++ [.lst (ds'.map T.int)]) ∧ Dg ds' ∧ ds'.length ≤ ds.length + 60 := by
  obtain ⟨σ', h', e, c', o6', ds', e1, e2, e3, e4⟩ := forN_eq (J := itRng 0 60) (g := gName 6) (b := b_in1) (ys := rngY 0 60) (Iv := fun i σ h => ∃ c' o6' ds', σ = dgS ns h0.length k c' o6' o7 ∧ h = h0 ++ [.lst (ds'.map T.int)] ∧ Dg ds' ∧ ds'.length ≤ ds.length + i) (fun i σ h _ => rng_fix i h)
    (fun i y hy σ h ⟨c', o6', ds', e1, e2, e3, e4⟩ => by
      obtain ⟨hi, rfl⟩ := rngY_at hy
      subst e1 e2
      obtain ⟨c2, ds2, q1, q2, q3⟩ := in1_eq ns h0 k o7 0 (some (.int (0 + (i : Nat)))) c' ds' e3 (by omega)
      exact ⟨_, _, _, _, rfl, .inl q1, c2, _, ds2, rfl, rfl, q2, by omega⟩) FU 0 _ _ (by rw [rngY_len]; unfold FU; omega) (Nat.zero_le _) ⟨c, o6, ds, rfl, rfl, hd, by omega⟩
  subst e1 e2
  rw [rngY_len] at e4
  refine ⟨c', o6', ds', ?_, e3, e4⟩
  simpa [sFor, iR1, aCons, aNil, eC] using e
theorem dg_in2 (ns : List Int) (h0 : TH) (k c s7 : Int) (o6 : Option T) (ds : List Int) (hd : Dg ds) (hl : ds.length < 800000) :
    ∃ o6' o7' ds', sFor (iR1 (aCons (eC (.int 12)) (aNil))) (gName 6) b_in2 (dgS ns h0.length k c o6 (some (.int s7))) (h0 ++ [.lst (ds.map T.int)]) = .nx (dgS ns h0.length k c o6' o7') (h0 ++ [.lst (ds'.map T.int)]) ∧ Dg ds' ∧ ds'.length ≤ ds.length + 12 := by
  obtain ⟨σ', h', e, s', o6', ds', e1, e2, e3, e4⟩ := forN_eq (J := itRng 0 12) (g := gName 6) (b := b_in2) (ys := rngY 0 12) (Iv := fun i σ h => ∃ s' o6' ds', σ = dgS ns h0.length k c o6' (some (.int s')) ∧ h = h0 ++ [.lst (ds'.map T.int)] ∧ Dg ds' ∧ ds'.length ≤ ds.length + i) (fun i σ h _ => rng_fix i h)
    (fun i y hy σ h ⟨s', o6', ds', e1, e2, e3, e4⟩ => by
      obtain ⟨hi, rfl⟩ := rngY_at hy
      subst e1 e2
      obtain ⟨s2, ds2, q1, q2, q3⟩ := in2_eq ns h0 k c s' (0 + (i : Nat)) ds' e3 (by omega)
      exact ⟨_, _, _, _, rfl, .inl q1, s2, _, ds2, rfl, rfl, q2, by omega⟩) FU 0 _ _ (by rw [rngY_len]; unfold FU; omega) (Nat.zero_le _) ⟨s7, o6, ds, rfl, rfl, hd, by omega⟩
  subst e1 e2
  rw [rngY_len] at e4
  refine ⟨o6', some (.int s'), ds', ?_, e3, e4⟩
  simpa [sFor, iR1, aCons, aNil, eC] using e
theorem dg_turn (ns : List Int) (h0 : TH) (k : Int) (hk : 0 ≤ k ∧ k < 63) (o5 o6 o7 : Option T) (ds : List Int) (hd : Dg ds) (hl : ds.length < 700000) :
    ∃ c' o6' o7' ds', (b_dg [some (.scr ns), some (.int 0), some (.int 63), some (.ref h0.length), some (.int k), o5, o6, o7] (h0 ++ [.lst (ds.map T.int)]) = .nx (dgS ns h0.length k c' o6' o7') (h0 ++ [.lst (ds'.map T.int)]) ∨
      b_dg [some (.scr ns), some (.int 0), some (.int 63), some (.ref h0.length), some (.int k), o5, o6, o7] (h0 ++ [.lst (ds.map T.int)]) = .bk (dgS ns h0.length k c' o6' o7') (h0 ++ [.lst (ds'.map T.int)])) ∧ Dg ds' ∧ ds'.length ≤ ds.length + 60 := by
  obtain ⟨c, hc⟩ := cell_eq ns k (h0 ++ [.lst (ds.map T.int)]) hk.1
  -- the cell made positive
  have rest : ∀ c : Int, ∃ c' o6' o7' ds', ((sSeq (sIf (mB (eBin fGt (eCall fLen (aCons (eVar 3) (aNil))) (eC (.int 1500)))) (sBreak) (sNil)) (sIf (mB (eBin fGe (eVar 5) (eBin fPow (eC (.int 10)) (eC (.int 18))))) (sFor (iR1 (aCons (eC (.int 60)) (aNil))) (gName 6) b_in1) (sSeq (sSet 7 (eBin fMod (eCall fInt (aCons (eBin fAdd (eBin fAdd (eBin fMul (eVar 5) (eC (.int 48271))) (eBin fMul (eVar 4) (eC (.int 69621)))) (eC (.int 11))) (aNil))) (eC (.int 2147483647)))) (sFor (iR1 (aCons (eC (.int 12)) (aNil))) (gName 6) b_in2)))) (dgS ns h0.length k c o6 o7) (h0 ++ [.lst (ds.map T.int)]) = .nx (dgS ns h0.length k c' o6' o7') (h0 ++ [.lst (ds'.map T.int)]) ∨
      (sSeq (sIf (mB (eBin fGt (eCall fLen (aCons (eVar 3) (aNil))) (eC (.int 1500)))) (sBreak) (sNil)) (sIf (mB (eBin fGe (eVar 5) (eBin fPow (eC (.int 10)) (eC (.int 18))))) (sFor (iR1 (aCons (eC (.int 60)) (aNil))) (gName 6) b_in1) (sSeq (sSet 7 (eBin fMod (eCall fInt (aCons (eBin fAdd (eBin fAdd (eBin fMul (eVar 5) (eC (.int 48271))) (eBin fMul (eVar 4) (eC (.int 69621)))) (eC (.int 11))) (aNil))) (eC (.int 2147483647)))) (sFor (iR1 (aCons (eC (.int 12)) (aNil))) (gName 6) b_in2)))) (dgS ns h0.length k c o6 o7) (h0 ++ [.lst (ds.map T.int)]) = .bk (dgS ns h0.length k c' o6' o7') (h0 ++ [.lst (ds'.map T.int)])) ∧ Dg ds' ∧ ds'.length ≤ ds.length + 60 := by
    intro c
    by_cases hbig : (1500 : Int) < ds.length
    · refine ⟨c, o6, o7, ds, .inr ?_, hd, by omega⟩
      simp [dgS, sSeq, sIf, SRes.of, SRes.then, mB, eBin, eVar, eC, eCall, aCons, aNil, fLen, fGt, hbig, sBreak]
    · by_cases hge : (10 : Int) ^ 18 ≤ c
      · obtain ⟨c', o6', ds', e1, e2, e3⟩ := dg_in1 ns h0 k c o6 o7 ds hd (by omega)
        refine ⟨c', o6', o7, ds', .inl ?_, e2, by omega⟩
        rw [← e1]
        have hge' : (1000000000000000000 : Int) ≤ c := by omega
        simp [dgS, sSeq, sIf, SRes.of, SRes.then, mB, eBin, eVar, eC, eCall, aCons, aNil, fLen, fGt, hbig, sNil, fGe, fPow, hge']
      · obtain ⟨o6', o7', ds', e1, e2, e3⟩ := dg_in2 ns h0 k c ((c * 48271 + k * 69621 + 11) % 2147483647) o6 ds hd (by omega)
        refine ⟨c, o6', o7', ds', .inl ?_, e2, by omega⟩
        rw [← e1]
        have hge' : ¬ (1000000000000000000 : Int) ≤ c := by omega
        simp [dgS, sSeq, sIf, SRes.of, SRes.then, mB, eBin, eVar, eC, eCall, aCons, aNil, fLen, fGt, hbig, sNil, fGe, fPow, hge', sSet, fInt, fMod, fMul, fAdd]
  by_cases hneg : c < 0
  · obtain ⟨c', o6', o7', ds', e1, e2, e3⟩ := rest (1 - 2 * c)
    refine ⟨c', o6', o7', ds', ?_, e2, e3⟩
    rcases e1 with e1 | e1
    · refine .inl ?_
      rw [← e1]
      unfold b_dg
      simp [dgS, sSeq, SRes.then, SRes.of, sSet, eCallF, aCons, aNil, eVar, hc, sIf, mB, eBin, eC, fLt, fLtB, hneg, fSub, fMul]
    · refine .inr ?_
      rw [← e1]
      unfold b_dg
      simp [dgS, sSeq, SRes.then, SRes.of, sSet, eCallF, aCons, aNil, eVar, hc, sIf, mB, eBin, eC, fLt, fLtB, hneg, fSub, fMul]
  · obtain ⟨c', o6', o7', ds', e1, e2, e3⟩ := rest c
    refine ⟨c', o6', o7', ds', ?_, e2, e3⟩
    rcases e1 with e1 | e1
    · refine .inl ?_
      rw [← e1]
      unfold b_dg
      simp [dgS, sSeq, SRes.then, SRes.of, sSet, eCallF, aCons, aNil, eVar, hc, sIf, mB, eBin, eC, fLt, fLtB, hneg, sNil]
    · refine .inr ?_
      rw [← e1]
      unfold b_dg
      simp [dgS, sSeq, SRes.then, SRes.of, sSet, eCallF, aCons, aNil, eVar, hc, sIf, mB, eBin, eC, fLt, fLtB, hneg, sNil]
theorem digits_eq (ns : List Int) (h0 : TH) : ∃ ds : List Int, F_digits [.scr ns, .int 0, .int 63] h0 = .ok (.ref h0.length) (h0 ++ [.lst (ds.map T.int)]) ∧ Dg ds ∧ ds.length ≤ 4000 := by
  obtain ⟨σ', h', e, c, o5, o6, o7, ds, e1, e2, e3, e4⟩ := forN_brk (J := itRng 0 63) (g := gName 4) (b := b_dg) (ys := rngY 0 63)
    (Iv := fun i σ h => ∃ o4 o5 o6 o7, ∃ ds : List Int, σ = [some (.scr ns), some (.int 0), some (.int 63), some (.ref h0.length), o4, o5, o6, o7] ∧ h = h0 ++ [.lst (ds.map T.int)] ∧ Dg ds ∧ ds.length ≤ 60 * i)
    (Dn := fun σ h => ∃ o4 o5 o6 o7, ∃ ds : List Int, σ = [some (.scr ns), some (.int 0), some (.int 63), some (.ref h0.length), o4, o5, o6, o7] ∧ h = h0 ++ [.lst (ds.map T.int)] ∧ Dg ds ∧ ds.length ≤ 4000)
    (fun i σ h _ => rng_fix i h) (fun σ h ⟨o4, o5, o6, o7, ds, e1, e2, e3, e4⟩ => ⟨o4, o5, o6, o7, ds, e1, e2, e3, by rw [rngY_len] at e4; omega⟩)
    (fun i y hy σ h ⟨o4, o5, o6, o7, ds, e1, e2, e3, e4⟩ => by
      obtain ⟨hi, rfl⟩ := rngY_at hy
      subst e1 e2
      obtain ⟨c', o6', o7', ds', q1, q2, q3⟩ := dg_turn ns h0 (0 + (i : Nat)) (by omega) o5 o6 o7 ds e3 (by omega)
      refine ⟨_, _, dgS ns h0.length (0 + (i : Nat)) c' o6' o7', h0 ++ [.lst (ds'.map T.int)], rfl, ?_⟩
      rcases q1 with q1 | q1
      · exact .inl ⟨.inl q1, _, _, _, _, ds', rfl, rfl, q2, by omega⟩
      · exact .inr ⟨q1, _, _, _, _, ds', rfl, rfl, q2, by omega⟩) FU 0 [some (.scr ns), some (.int 0), some (.int 63), some (.ref h0.length), none, none, none, none] (h0 ++ [.lst []]) (by rw [rngY_len]; unfold FU; omega) (Nat.zero_le _) ⟨none, none, none, none, [], rfl, rfl, (fun x hx => (by cases hx)), (by simp)⟩
  subst e1 e2
  refine ⟨ds, ?_, e3, e4⟩
  have e' : forN (itRng 0 63) (gName 4) b_dg FU 0 [some (.scr ns), some (.int 0), some (.int 63), some (.ref h0.length), none, none, none, none] (h0 ++ [.lst []]) = .nx [some (.scr ns), some (.int 0), some (.int 63), some (.ref h0.length), c, o5, o6, o7] (h0 ++ [.lst (ds.map T.int)]) := e
  simp [F_digits, b_digits, runB, sSeq, sSet, eLst, aNil, SRes.of, SRes.then, sFor, iR2, aCons, eVar, sRet, e', List.replicate]
/-- the box: the digits at d, the next one's place -/
def Bx (h : TH) (b d : Nat) : Prop := ∃ (at_ : Int) (ds : List Int), h[b]? = some (.lst [.ref d, .int at_]) ∧ 0 ≤ at_ ∧ h[d]? = some (.lst (ds.map T.int)) ∧ Dg ds ∧ d ≠ b
/-- what was there stays, but for the box -/
structure Gw (b : Nat) (h h' : TH) : Prop where
  len : h.length ≤ h'.length
  at_ : ∀ k o, k ≠ b → h[k]? = some o → h'[k]? = some o
theorem Gw.refl (b : Nat) (h : TH) : Gw b h h := ⟨Nat.le_refl _, fun _ _ _ e => e⟩
theorem Gw.trans {b : Nat} {h1 h2 h3 : TH} (x : Gw b h1 h2) (y : Gw b h2 h3) : Gw b h1 h3 := ⟨Nat.le_trans x.len y.len, fun k o hk e => y.at_ k o hk (x.at_ k o hk e)⟩
theorem app_get {h : TH} {k : Nat} {o : TO} (r : TH) (e : h[k]? = some o) : (h ++ r)[k]? = some o := by
  rw [List.getElem?_append_left (List.getElem?_eq_some_iff.mp e).1]; exact e
theorem Gw.app (b : Nat) (h r : TH) : Gw b h (h ++ r) := ⟨by simp, fun k o _ e => app_get r e⟩
theorem Bx.app {h : TH} {b d : Nat} (x : Bx h b d) (r : TH) : Bx (h ++ r) b d :=
  let ⟨a, ds, e1, e2, e3, e4, e5⟩ := x; ⟨a, ds, app_get r e1, e2, app_get r e3, e4, e5⟩
def b_draw : MS := sSeq (sSet 2 (eBin fIx (eVar 0) (eC (.int 1)))) (sSeq (sAsg (eBin fAdd (eVar 2) (eC (.int 1))) (gSub fSetL (eVar 0) (eC (.int 1)))) (sSeq (sIf (mB (eBin fLt (eVar 2) (eCall fLen (aCons (eBin fIx (eVar 0) (eC (.int 0))) (aNil))))) (sRet (eBin fMod (eCall fInt (aCons (eBin fIx (eBin fIx (eVar 0) (eC (.int 0))) (eVar 2)) (aNil))) (eVar 1))) (sNil)) (sRet (eBin fMod (eCall fInt (aCons (eBin fMul (eVar 2) (eC (.int 7))) (aNil))) (eVar 1)))))
def F_draw : Fn := runB b_draw 1
theorem draw_eq {h : TH} {b d : Nat} {many : Int} (x : Bx h b d) (hm : 0 < many) : ∃ (r : Int) (h' : TH), F_draw [.ref b, .int many] h = .ok (.int r) h' ∧ 0 ≤ r ∧ r < many ∧ Bx h' b d ∧ Gw b h h' ∧ h'.length = h.length := by
  obtain ⟨a, ds, e1, e2, e3, e4, e5⟩ := x
  have hb : b < h.length := (List.getElem?_eq_some_iff.mp e1).1
  have i1 : atI [T.ref d, T.int a] 1 = some (.int a) := rfl
  have i0 : ∀ z : Int, atI [T.ref d, T.int z] 0 = some (.ref d) := fun z => rfl
  have x2 : ixN 2 1 = some 1 := rfl
  have gb : (h.set b (.lst [.ref d, .int (a + 1)]))[b]? = some (.lst [.ref d, .int (a + 1)]) := by rw [List.getElem?_set_self hb]
  have gd : (h.set b (.lst [.ref d, .int (a + 1)]))[d]? = some (.lst (ds.map T.int)) := by rw [List.getElem?_set_ne (Ne.symm e5)]; exact e3
  have B' : Bx (h.set b (.lst [.ref d, .int (a + 1)])) b d := ⟨a + 1, ds, gb, by omega, gd, e4, e5⟩
  have G' : Gw b h (h.set b (.lst [.ref d, .int (a + 1)])) := ⟨by simp, fun k o hk e => by rw [List.getElem?_set_ne (Ne.symm hk)]; exact e⟩
  by_cases hl : a < ds.length
  · have ix : atI (ds.map T.int) a = some (.int (ds[a.toNat]'(by omega))) := by
      rw [atI_nn e2 (by simpa using hl)]; simp
    refine ⟨ds[a.toNat]'(by omega) % many, _, ?_, Int.emod_nonneg _ (by omega), Int.emod_lt_of_pos _ hm, B', G', by simp⟩
    simp [F_draw, b_draw, runB, sSeq, SRes.of, SRes.then, sSet, eBin, eVar, eC, fIx, itemsOf, e1, i1, sAsg, fAdd, gSub, fSetL, x2, sIf, mB, eCall, aCons, aNil, gb, gd, i0, fLen, fLt, fLtB, hl, sRet, ix, fInt, fMod, hm]
  · refine ⟨a * 7 % many, _, ?_, Int.emod_nonneg _ (by omega), Int.emod_lt_of_pos _ hm, B', G', by simp⟩
    simp [F_draw, b_draw, runB, sSeq, SRes.of, SRes.then, sSet, eBin, eVar, eC, fIx, itemsOf, e1, i1, sAsg, fAdd, gSub, fSetL, x2, sIf, mB, eCall, aCons, aNil, gb, gd, i0, fLen, fLt, fLtB, hl, sRet, fInt, fMod, hm, sNil, fMul]
end TL

/-! T-layer, part Q: things that are compared, changed. -/
namespace TL
open PySem PySem.Spec PyProof.Rows L2
/-- a thing: to depth n, rows of at most L, apart from the box at b -/
def Gd (b L : Nat) (h : TH) : Nat → T → Prop
  | 0, _ => False
  | n + 1, t => match t with
    | .non => True
    | .bl _ => True
    | .int _ => True
    | .str x => x.length ≤ 100 ∧ PyData.canLay0 (.str x) = true
    | .tup ts => ts.length ≤ L ∧ ∀ t ∈ ts, Gd b L h n t
    | .ref k => k ≠ b ∧ ∃ ts, h[k]? = some (.lst ts) ∧ ts.length ≤ L ∧ ∀ t ∈ ts, Gd b L h n t
    | .scr _ => False
theorem Gd.mono {b L L' : Nat} {h h' : TH} (hL : L ≤ L') (g : Gw b h h') : ∀ {n n' : Nat} {t : T}, n ≤ n' → Gd b L h n t → Gd b L' h' n' t
  | 0, _, _, _, x => x.elim
  | n + 1, 0, _, hn, _ => absurd hn (by omega)
  | n + 1, n' + 1, t, hn, x => by
    cases t with
    | non => trivial
    | bl _ => trivial
    | int _ => trivial
    | str _ => exact x
    | tup ts => exact ⟨Nat.le_trans x.1 hL, fun t ht => Gd.mono hL g (by omega) (x.2 t ht)⟩
    | ref k =>
      obtain ⟨hk, ts, e, hl, a⟩ := x
      exact ⟨hk, ts, g.at_ k _ hk e, Nat.le_trans hl hL, fun t ht => Gd.mono hL g (by omega) (a t ht)⟩
    | scr _ => exact x.elim
theorem mapM_all {α β : Type} {f : α → Option β} {P : β → Prop} : ∀ {l : List α}, (∀ a ∈ l, ∃ d, f a = some d ∧ P d) → ∃ ds, l.mapM f = some ds ∧ ds.length = l.length ∧ ∀ d ∈ ds, P d
  | [], _ => ⟨[], rfl, rfl, fun d hd => by cases hd⟩
  | a :: l, h => by
    obtain ⟨d, e, p⟩ := h a List.mem_cons_self
    obtain ⟨ds, e2, hl, p2⟩ := mapM_all fun x hx => h x (List.mem_cons_of_mem _ hx)
    refine ⟨d :: ds, by rw [List.mapM_cons, e, e2]; rfl, by simp [hl], fun x hx => ?_⟩
    rcases List.mem_cons.mp hx with z | z
    · rw [z]; exact p
    · exact p2 x z
theorem canAll : ∀ {ds : List PyData}, (∀ d ∈ ds, d.canLay0 = true) → PyData.canLayAll0 ds = true
  | [], _ => rfl
  | d :: ds, h => by
    show (d.canLay0 && PyData.canLayAll0 ds) = true
    rw [h d List.mem_cons_self, canAll fun x hx => h x (List.mem_cons_of_mem _ hx)]; rfl
theorem depthAll_le {n : Nat} : ∀ {ds : List PyData}, (∀ d ∈ ds, d.depth ≤ n) → PyData.depthAll ds ≤ n
  | [], _ => Nat.zero_le _
  | d :: ds, h => by
    show max d.depth (PyData.depthAll ds) ≤ n
    exact Nat.max_le.mpr ⟨h d List.mem_cons_self, depthAll_le fun x hx => h x (List.mem_cons_of_mem _ hx)⟩
theorem gd_dat {b L : Nat} {h : TH} : ∀ {n : Nat} {t : T}, Gd b L h n t → ∀ m, n ≤ m → ∃ d, dat m h t = some d ∧ d.canLay0 = true ∧ d.depth ≤ n
  | 0, _, x, _, _ => x.elim
  | n + 1, t, x, 0, hm => absurd hm (by omega)
  | n + 1, t, x, m + 1, hm => by
    have rows : ∀ ts : List T, (∀ t ∈ ts, Gd b L h n t) → ∃ ds, ts.mapM (dat m h) = some ds ∧ ds.length = ts.length ∧ ∀ d ∈ ds, d.canLay0 = true ∧ d.depth ≤ n := fun ts a => mapM_all fun t ht => gd_dat (a t ht) m (by omega)
    cases t with
    | non => exact ⟨_, rfl, rfl, Nat.zero_le _⟩
    | bl _ => exact ⟨_, rfl, rfl, Nat.zero_le _⟩
    | int _ => exact ⟨_, rfl, rfl, Nat.zero_le _⟩
    | str z => exact ⟨_, rfl, x.2, Nat.zero_le _⟩
    | tup ts =>
      obtain ⟨ds, e, _, p⟩ := rows ts x.2
      refine ⟨.tuple ds, by simp only [dat, e]; rfl, canAll fun d hd => (p d hd).1, Nat.succ_le_succ (depthAll_le fun d hd => (p d hd).2)⟩
    | ref k =>
      obtain ⟨hk, ts, e0, hl, a⟩ := x
      obtain ⟨ds, e, _, p⟩ := rows ts a
      refine ⟨.list ds, by simp only [dat, e0, e]; rfl, canAll fun d hd => (p d hd).1, Nat.succ_le_succ (depthAll_le fun d hd => (p d hd).2)⟩
    | scr _ => exact x.elim
theorem gd_ty {b L : Nat} {h : TH} {n : Nat} {t : T} (x : Gd b L h n t) : ∃ ty, tyT h t = some ty := by
  cases n with
  | zero => exact x.elim
  | succ n =>
    cases t with
    | ref k => obtain ⟨_, ts, e, _⟩ := x; exact ⟨.lst, by simp [tyT, e]⟩
    | scr _ => exact x.elim
    | _ => exact ⟨_, rfl⟩
/-- what a thing's isinstance of str, of tuple says -/
def isS : T → Bool
  | .str _ => true
  | _ => false
def isT : T → Bool
  | .tup _ => true
  | _ => false
theorem inst_str {b L : Nat} {h : TH} {n : Nat} {t : T} (x : Gd b L h n t) : fIsInst .str t h = .ok (.bl (isS t)) h := by
  cases n with
  | zero => exact x.elim
  | succ n =>
    cases t with
    | ref k => obtain ⟨_, ts, e, _⟩ := x; simp [fIsInst, tyT, e, isS, Ty.is]
    | scr _ => exact x.elim
    | _ => simp [fIsInst, tyT, isS, Ty.is]
theorem inst_tup {b L : Nat} {h : TH} {n : Nat} {t : T} (x : Gd b L h n t) : fIsInst .tup t h = .ok (.bl (isT t)) h := by
  cases n with
  | zero => exact x.elim
  | succ n =>
    cases t with
    | ref k => obtain ⟨_, ts, e, _⟩ := x; simp [fIsInst, tyT, e, isT, Ty.is]
    | scr _ => exact x.elim
    | _ => simp [fIsInst, tyT, isT, Ty.is]
/-- is it just this text -/
def eqS (z : Str) : T → Bool
  | .str x => decide (x = z)
  | _ => false
theorem eq_str {b L : Nat} {h : TH} {n : Nat} {t : T} (z : Str) (hz : PyData.canLay0 (.str z) = true) (x : Gd b L h n t) (hn : n ≤ 60) : fEqB t (.str z) h = .ok (eqS z t) h := by
  obtain ⟨d, e, c, dp⟩ := gd_dat x 66 (by omega)
  have sz : SeqAt.shaped (.str z) = true := by
    unfold SeqAt.shaped
    rw [hz]; rfl
  have sd : SeqAt.shaped d = true := by
    unfold SeqAt.shaped
    rw [c, Bool.true_and, decide_eq_true_eq]; omega
  have ez : dat 66 h (.str z) = some (.str z) := rfl
  cases t with
  | str y => rfl
  | int i =>
    cases e
    simp only [fEqB, ez, eqS]
    rw [show dat 66 h (.int i) = some (.int i) from rfl]
    simp [sz, sd, PyData.eqv]
  | non => cases e; simp only [fEqB, ez, eqS]; rw [show dat 66 h .non = some .none from rfl]; simp [sz, sd, PyData.eqv]
  | bl q => cases e; simp only [fEqB, ez, eqS]; rw [show dat 66 h (.bl q) = some (.bool q) from rfl]; simp [sz, sd, PyData.eqv]
  | tup ts =>
    simp only [fEqB, ez, eqS, e, sz, sd, and_self, if_true]
    have : ∃ ds, d = .tuple ds := by
      simp only [dat, Option.map_eq_some_iff] at e
      obtain ⟨ds, _, e⟩ := e
      exact ⟨ds, e.symm⟩
    obtain ⟨ds, rfl⟩ := this
    rfl
  | ref k =>
    simp only [fEqB, ez, eqS, e, sz, sd, and_self, if_true]
    have : ∃ ds, d = .list ds := by
      simp only [dat] at e
      split at e
      · simp only [Option.map_eq_some_iff] at e
        obtain ⟨ds, _, e⟩ := e
        exact ⟨ds, e.symm⟩
      · cases e
    obtain ⟨ds, rfl⟩ := this
    rfl
  | scr ns =>
    cases n with
    | zero => exact x.elim
    | succ n => exact x.elim
theorem join_one (s : Str) : Txt.join ("" : Str) [s] = s := by
  cases s; rfl
def b_like (g : Fn) : MS := sSeq (sIf (mB (eUn (fIsInst .tup) (eVar 1))) (sSeq (sIf (mOr (mNot (mB (eUn (fIsInst .tup) (eVar 0)))) (mB (eBin fNe (eCall fLen (aCons (eVar 0) (aNil))) (eCall fLen (aCons (eVar 1) (aNil)))))) (sRet (eC (.bl false))) (sNil)) (sRet (eBin fEq (eLc (iR1 (aCons (eCall fLen (aCons (eVar 1) (aNil))) (aNil))) (gName 2) (mNot (mB (eCallF 2 g (aCons (eBin fIx (eVar 0) (eVar 2)) (aCons (eBin fIx (eVar 1) (eVar 2)) (aNil)))))) (eC (.int 1)) [2]) (eLst (aNil))))) (sNil)) (sSeq (sIf (mB (eBin fIs (eVar 1) (eC .non))) (sRet (eBin fIs (eVar 0) (eC .non))) (sNil)) (sSeq (sIf (mB (eBin fIs (eVar 1) (eC (.bl true)))) (sRet (eBin fIs (eVar 0) (eC (.bl true)))) (sNil)) (sSeq (sIf (mB (eBin fIs (eVar 1) (eC (.bl false)))) (sRet (eBin fIs (eVar 0) (eC (.bl false)))) (sNil)) (sSeq (sIf (mB (eUn (fIsInst .str) (eVar 1))) (sRet (eAnd (eUn (fIsInst .str) (eVar 0)) (eBin fEq (eMth msJoin (eC (.str "")) (aCons (eLst (aCons (eVar 0) (aNil))) (aNil))) (eVar 1)))) (sNil)) (sRet (eAnd (eUn (fIsInst .int) (eVar 0)) (eAnd (eNot (eUn (fIsInst .bl) (eVar 0))) (eBin fEq (eVar 0) (eVar 1)))))))))
theorem like_str {b L : Nat} {h : TH} {m : Nat} {t : T} (n : Nat) (x : Gd b L h m t) (z : Str) : ∃ r, recF b_like 1 (n + 1) [t, .str z] h = .ok (.bl (eqS z t)) (h ++ r) := by
  have e0 := inst_str x
  cases t with
  | str s =>
    refine ⟨[.lst [.str s]], ?_⟩
    have hl : s.length ≤ 100 := by
      cases m with
      | zero => exact x.elim
      | succ m => exact x.1
    have hz : s.length + (("" : Str)).length ≤ 16777216 := by
      have : (("" : Str)).length = 0 := by decide
      omega
    simp [recF, b_like, runB, sSeq, sIf, SRes.of, SRes.then, mB, eUn, eVar, fIsInst, tyT, Ty.is, sNil, eBin, eC, fIs, fIsB, isN, isBl, sRet, eAnd, eMth, rcv, msJoin, aCons, aNil, eLst, fJoin, fJoin1, strsT, sizeLine_eq, get_last, join_one, fEq, fEqB, eqS, hz]
  | _ =>
    refine ⟨[], ?_⟩
    have e1 : fIsInst .tup (.str z) h = .ok (.bl false) h := by simp [fIsInst, tyT, Ty.is]
    have e2 : fIsInst .str (.str z) h = .ok (.bl true) h := by simp [fIsInst, tyT, Ty.is]
    simp [recF, b_like, runB, sSeq, sIf, SRes.of, SRes.then, mB, eUn, eVar, sNil, eBin, eC, fIs, fIsB, isN, isBl, sRet, eAnd, e0, e1, e2, isS, eqS]
theorem like_bl (n : Nat) (a c : Bool) (h : TH) : recF b_like 1 (n + 1) [.bl a, .bl c] h = .ok (.bl (a == c)) h := by
  cases a <;> cases c <;> simp [recF, b_like, runB, sSeq, sIf, SRes.of, SRes.then, mB, eUn, eVar, fIsInst, tyT, Ty.is, sNil, eBin, eC, fIs, fIsB, isN, isBl, sRet]
/-! ### a heap that grows at its end -/
def Gr (h h' : TH) : Prop := ∃ r, h' = h ++ r
theorem Gr.refl (h : TH) : Gr h h := ⟨[], by simp⟩
theorem Gr.trans {a b c : TH} (x : Gr a b) (y : Gr b c) : Gr a c := by
  obtain ⟨r, rfl⟩ := x
  obtain ⟨q, rfl⟩ := y
  exact ⟨r ++ q, by simp⟩
theorem Gr.app (h r : TH) : Gr h (h ++ r) := ⟨r, rfl⟩
theorem Gr.gw {h h' : TH} (b : Nat) (x : Gr h h') : Gw b h h' := by
  obtain ⟨r, rfl⟩ := x
  exact Gw.app b h r
theorem Gr.bx {h h' : TH} {b d : Nat} (x : Gr h h') (y : Bx h b d) : Bx h' b d := by
  obtain ⟨r, rfl⟩ := x
  exact y.app r
theorem Gr.get {h h' : TH} {k : Nat} {o : TO} (x : Gr h h') (e : h[k]? = some o) : h'[k]? = some o := by
  obtain ⟨r, rfl⟩ := x
  exact app_get r e
theorem eLc_gr {it : MI} {g : MG} {t : MB} {e : ME} {vs : List Nat} {σ : Sl} {h : TH} {J : MIt} {ys : List Yv} {p : Yv → Bool} {f : Yv → T} (hit : ∃ h1, it σ h = .ok J h1 ∧ Gr h h1) (hJ : ∀ i h', Gr h h' → J i h' = some (ys[i]?)) (hl : ys.length ≤ 1000000)
    (hb : ∀ y ∈ ys, ∀ h', Gr h h' → ∃ σ1 h2, g y (wipeT σ vs) h' = .ok σ1 h' ∧ t σ1 h' = .ok (p y) h2 ∧ Gr h' h2 ∧ (p y = true → ∃ h3, e σ1 h2 = .ok (f y) h3 ∧ Gr h2 h3)) :
    ∃ h', Gr h h' ∧ eLc it g t e vs σ h = .ok (.ref h'.length) (h' ++ [.lst ((ys.filter p).map f)]) := by
  obtain ⟨h1, e1, g1⟩ := hit
  obtain ⟨h', e2, g2⟩ := eLc_eq (I := fun h' => Gr h h') (p := p) (f := f) e1 (fun i h' x => hJ i h' x) g1 hl fun y hy h' x => by
    obtain ⟨σ1, h2, q1, q2, q3, q4⟩ := hb y hy h' x
    refine ⟨σ1, h', h2, q1, q2, x.trans q3, fun hp => ?_⟩
    obtain ⟨h3, q5, q6⟩ := q4 hp
    exact ⟨h3, q5, (x.trans q3).trans q6⟩
  exact ⟨h', g2, e2⟩
theorem blsOf_map {α : Type} (q : α → Bool) : ∀ l : List α, blsOf (l.map fun c => T.bl (q c)) = some (l.map q)
  | [] => rfl
  | c :: l => by simp [blsOf, blsOf_map q l]
/-- all([..]) over a made list -/
theorem all_of {h : TH} {l : List T} {bs : List Bool} (e : blsOf l = some bs) : fAll [.ref h.length] (h ++ [.lst l]) = .ok (.bl (bs.all id)) (h ++ [.lst l]) := by
  unfold fAll lstArg
  simp [e]
theorem dat_ref {n : Nat} {h : TH} {k : Nat} {l : List T} {ds : List PyData} (e : h[k]? = some (.lst l)) (e2 : l.mapM (dat n h) = some ds) : dat (n + 1) h (.ref k) = some (.list ds) := by
  show (match h[k]? with | some (.lst ts) => (ts.mapM (dat n h)).map PyData.list | _ => none) = _
  rw [e]
  show (l.mapM (dat n h)).map PyData.list = _
  rw [e2]; rfl
theorem dat_tup {n : Nat} {h : TH} {l : List T} {ds : List PyData} (e2 : l.mapM (dat n h) = some ds) : dat (n + 1) h (.tup l) = some (.tuple ds) := by
  show (l.mapM (dat n h)).map PyData.tuple = _
  rw [e2]; rfl
/-- is a == [] for a made list -/
theorem eq_nil {h2 : TH} {l : List T} (hd : ∃ ds, l.mapM (dat 65 h2) = some ds ∧ ds.length = l.length ∧ SeqAt.shaped (.list ds) = true) (k k2 : Nat) (e1 : h2[k]? = some (.lst l)) (e2 : h2[k2]? = some (.lst [])) : fEqB (.ref k) (.ref k2) h2 = .ok (decide (l = [])) h2 := by
  obtain ⟨ds, q1, q2, q3⟩ := hd
  unfold fEqB
  have d1 : dat 66 h2 (.ref k) = some (.list ds) := dat_ref e1 q1
  have d2 : dat 66 h2 (.ref k2) = some (.list []) := dat_ref e2 rfl
  have s0 : SeqAt.shaped (.list []) = true := by decide
  simp only [d1, d2, q3, s0, and_self, if_true]
  cases l with
  | nil => cases ds with
    | nil => rfl
    | cons d ds => simp at q2
  | cons t l => cases ds with
    | nil => simp at q2
    | cons d ds => simp [PyData.eqv, PyData.eqvAll]
theorem strY {z : Str} (i : Nat) : ((z.cps[i]?).map fun c => Yv.val (.str ⟨#[c]⟩)) = (z.cps.toList.map fun c => Yv.val (.str ⟨#[c]⟩))[i]? := by
  rw [List.getElem?_map, Array.getElem?_toList]
theorem tupY {ts : List T} (i : Nat) : ((ts[i]?).map Yv.val) = (ts.map Yv.val)[i]? := by rw [List.getElem?_map]
def inS (a b : Str) : Bool := !(Builtin.Str.occurrences b a 0 b.length 1).isEmpty
/-- all([e for ..]) -/
theorem all_lc {it : MI} {g : MG} {e : ME} {vs : List Nat} {σ : Sl} {h : TH} {J : MIt} {ys : List Yv} {q : Yv → Bool} (hit : ∃ h1, it σ h = .ok J h1 ∧ Gr h h1) (hJ : ∀ i h', Gr h h' → J i h' = some (ys[i]?)) (hl : ys.length ≤ 1000000)
    (hb : ∀ y ∈ ys, ∀ h', Gr h h' → ∃ σ1 h2, g y (wipeT σ vs) h' = .ok σ1 h' ∧ e σ1 h' = .ok (.bl (q y)) h2 ∧ Gr h' h2) :
    ∃ h', Gr h h' ∧ eCall fAll (aCons (eLc it g mYes e vs) aNil) σ h = .ok (.bl (ys.all q)) h' := by
  obtain ⟨h', g1, e1⟩ := eLc_gr (p := fun _ => true) (f := fun y => .bl (q y)) (t := mYes) (e := e) hit hJ hl fun y hy h' x => by
    obtain ⟨σ1, h2, q1, q2, q3⟩ := hb y hy h' x
    exact ⟨σ1, h', q1, rfl, Gr.refl _, fun _ => ⟨h2, q2, q3⟩⟩
  refine ⟨h' ++ [.lst ((ys.filter fun _ => true).map fun y => .bl (q y))], g1.trans (Gr.app _ _), ?_⟩
  have hb : blsOf ((ys.filter fun _ => true).map fun y => T.bl (q y)) = some (ys.map q) := by
    rw [List.filter_eq_self.mpr (fun _ _ => rfl)]
    exact blsOf_map q ys
  simp only [eCall, aCons, aNil, e1, bind_ok, all_of hb, List.all_map]
  rfl
/-- [e for .. if t] == [] -/
theorem nil_lc {it : MI} {g : MG} {t : MB} {e : ME} {vs : List Nat} {σ : Sl} {h : TH} {J : MIt} {ys : List Yv} {p : Yv → Bool} {f : Yv → T} (hit : ∃ h1, it σ h = .ok J h1 ∧ Gr h h1) (hJ : ∀ i h', Gr h h' → J i h' = some (ys[i]?)) (hl : ys.length ≤ 1000000)
    (hf : ∀ y ∈ ys, ∃ d, (∀ h, dat 65 h (f y) = some d) ∧ d.canLay0 = true ∧ d.depth = 0)
    (hb : ∀ y ∈ ys, ∀ h', Gr h h' → ∃ σ1 h2, g y (wipeT σ vs) h' = .ok σ1 h' ∧ t σ1 h' = .ok (p y) h2 ∧ Gr h' h2 ∧ (p y = true → ∃ h3, e σ1 h2 = .ok (f y) h3 ∧ Gr h2 h3)) :
    ∃ h', Gr h h' ∧ eBin fEq (eLc it g t e vs) (eLst aNil) σ h = .ok (.bl (ys.all fun y => !p y)) h' ∧ eBin fNe (eLc it g t e vs) (eLst aNil) σ h = .ok (.bl (!ys.all fun y => !p y)) h' := by
  obtain ⟨h', g1, e1⟩ := eLc_gr (p := p) (f := f) (t := t) (e := e) hit hJ hl hb
  refine ⟨h' ++ [.lst ((ys.filter p).map f)] ++ [.lst []], (g1.trans (Gr.app _ _)).trans (Gr.app _ _), ?_⟩
  have dd : ∃ ds, ((ys.filter p).map f).mapM (dat 65 (h' ++ [.lst ((ys.filter p).map f)] ++ [.lst []])) = some ds ∧ ds.length = ((ys.filter p).map f).length ∧ SeqAt.shaped (.list ds) = true := by
    obtain ⟨ds, q1, q2, q3⟩ := mapM_all (f := dat 65 (h' ++ [.lst ((ys.filter p).map f)] ++ [.lst []])) (P := fun d => d.canLay0 = true ∧ d.depth ≤ 0) (l := (ys.filter p).map f) fun a ha => by
      obtain ⟨y, hy, rfl⟩ := List.mem_map.mp ha
      obtain ⟨d, q1, q2, q3⟩ := hf y (List.mem_filter.mp hy).1
      exact ⟨d, q1 _, q2, by omega⟩
    refine ⟨ds, q1, q2, ?_⟩
    unfold SeqAt.shaped
    rw [Bool.and_eq_true, decide_eq_true_eq]
    refine ⟨canAll fun d hd => (q3 d hd).1, ?_⟩
    have : PyData.depthAll ds ≤ 0 := depthAll_le fun d hd => (q3 d hd).2
    show PyData.depthAll ds + 1 ≤ 64
    omega
  have ev : decide ((ys.filter p).map f = []) = ys.all fun y => !p y := by
    rw [Bool.eq_iff_iff]
    simp [List.filter_eq_nil_iff]
  have k1 : (h' ++ [TO.lst ((ys.filter p).map f)] ++ [.lst []])[h'.length]? = some (.lst ((ys.filter p).map f)) := by simp
  have k2 : (h' ++ [TO.lst ((ys.filter p).map f)] ++ [.lst []])[(h' ++ [TO.lst ((ys.filter p).map f)]).length]? = some (.lst []) := get_last _ _
  have fe := eq_nil dd h'.length (h' ++ [TO.lst ((ys.filter p).map f)]).length k1 k2
  have z : (0 : Nat) ≤ sizeLine := Nat.zero_le _
  rw [← ev]
  constructor
  · simp only [eBin, e1, bind_ok, eLst, aNil, List.length_nil, z, if_true, fEq, fe]
  · simp only [eBin, e1, bind_ok, eLst, aNil, List.length_nil, z, if_true, fNe, fe]
/-! ### ascending -/
def ascB {α : Type} (lt : α → α → Bool) (l : List α) : Bool := (l.zip (l.drop 1)).all fun p => lt p.1 p.2
theorem ascB_cons {α : Type} (lt : α → α → Bool) (a b : α) (l : List α) : ascB lt (a :: b :: l) = (lt a b && ascB lt (b :: l)) := by
  simp [ascB]
theorem asc_pair {α : Type} {lt : α → α → Bool} (tr : ∀ a b c, lt a b = true → lt b c = true → lt a c = true) : ∀ l : List α, ascB lt l = true ↔ l.Pairwise fun a b => lt a b = true
  | [] => by simp [ascB]
  | [a] => by simp [ascB]
  | a :: b :: l => by
    rw [ascB_cons, Bool.and_eq_true, asc_pair tr (b :: l), List.pairwise_cons (a := a)]
    refine ⟨fun ⟨h1, h2⟩ => ⟨fun x hx => ?_, h2⟩, fun ⟨h1, h2⟩ => ⟨h1 b List.mem_cons_self, h2⟩⟩
    rcases List.mem_cons.mp hx with e | hx
    · rw [e]; exact h1
    · exact tr a b x h1 ((List.pairwise_cons.mp h2).1 x hx)
theorem Lin.refl {α : Type} {le : α → α → Bool} (h : Lin le) (a : α) : le a a = true := by have := h.total a a; simpa using this
theorem Lin.lt_tr {α : Type} {le : α → α → Bool} (h : Lin le) (a b c : α) (h1 : (!le b a) = true) (h2 : (!le c b) = true) : (!le c a) = true := by
  have e1 : le b a = false := by simpa using h1
  have e2 : le c b = false := by simpa using h2
  have t1 := h.total a b
  rw [e1, Bool.or_false] at t1
  cases e : le c a with
  | false => rfl
  | true => rw [h.trans c a b e t1] at e2; cases e2
theorem asc_sorted {α : Type} [DecidableEq α] {le : α → α → Bool} (h : Lin le) (l : List α) : ascB (fun a b => !le b a) l = decide (l = (uniq l).mergeSort le) := by
  rw [Bool.eq_iff_iff, decide_eq_true_eq, asc_pair h.lt_tr]
  constructor
  · intro p
    have nd : l.Nodup := p.imp fun {a b} hab e => by
      subst e
      rw [h.refl] at hab; cases hab
    rw [uniq_self nd]
    refine (List.mergeSort_of_pairwise (p.imp fun {a b} hab => ?_)).symm
    have := h.total a b
    have e : le b a = false := by simpa using hab
    rw [e, Bool.or_false] at this
    exact this
  · intro e
    have nd : l.Nodup := by
      rw [e]
      exact (List.mergeSort_perm (uniq l) le).nodup_iff.mpr (nodup_uniq l)
    have p : l.Pairwise fun a b => le a b = true := by
      rw [e]
      exact List.pairwise_mergeSort h.trans h.total (uniq l)
    refine List.Pairwise.imp (R := fun a b => le a b = true ∧ a ≠ b) (fun {a b} hab => ?_) (List.Pairwise.and p nd)
    cases e2 : le b a with
    | false => rfl
    | true => exact absurd (h.anti a b hab.1 e2) hab.2
theorem zipY {ts us : List T} (i : Nat) : (match ts[i]?, us[i]? with
    | some x, some y => some (Yv.parts [x, y])
    | _, _ => none) = ((ts.zip us).map fun p => Yv.parts [p.1, p.2])[i]? := by
  rw [List.getElem?_map, List.zip_eq_zipWith, List.getElem?_zipWith]
  cases ts[i]? <;> cases us[i]? <;> rfl
theorem cut1 {α : Type} (l : List α) : cutL l (some 1) none = l.drop 1 := by
  unfold cutL
  have e1 : HT.sIx l.length 0 (some 1) = min 1 l.length := HT.sIx_nat l.length 0 1
  have e2 : HT.sIx l.length l.length none = l.length := rfl
  rw [e1, e2]
  cases l with
  | nil => rfl
  | cons a l =>
    have : min 1 (a :: l).length = 1 := by simp
    rw [this]
    simp
def ltP (p q : Str × Str) : Bool := !leP q p
theorem ltS_not (a b : Str) : ltS a b = !leS b a := by rw [leS_not]; simp
theorem lt_strs (a b : Str) (h : TH) : fLt (.str a) (.str b) h = .ok (.bl (ltS a b)) h := rfl
theorem lt_pairs (a b : Str × Str) (h : TH) : fLt (ofPair a) (ofPair b) h = .ok (.bl (ltP a b)) h := by
  have d : ∀ p : Str × Str, dat 66 h (ofPair p) = some (.tuple [.str p.1, .str p.2]) := fun p => rfl
  have e : PySem.W.dataLt (.tuple [.str a.1, .str a.2]) (.tuple [.str b.1, .str b.2]) = ltP a b := by
    unfold ltP
    rw [le_encP]
    show _ = !!PySem.W.dataLt (.tuple [.str a.1, .str a.2]) (.tuple [.str b.1, .str b.2])
    simp
  have al : PySem.W.alike (.tuple [.str a.1, .str a.2]) (.tuple [.str b.1, .str b.2]) = true := rfl
  have dp : (PyData.tuple [.str a.1, .str a.2]).depth ≤ 63 := by simp [PyData.depth, PyData.depthAll]
  unfold fLt fLtB
  simp only [d]
  rw [if_pos ⟨al, (fun z => by cases z), dp⟩, e]
  rfl
/-! ### rows of texts, of pairs -/
theorem mapM_strs (m : Nat) (h : TH) : ∀ xs : List Str, (xs.map T.str).mapM (dat (m + 1) h) = some (xs.map PyData.str)
  | [] => rfl
  | x :: xs => by
    rw [List.map_cons, List.mapM_cons, mapM_strs m h xs]; rfl
theorem mapM_pairs (m : Nat) (h : TH) : ∀ ps : List (Str × Str), (ps.map ofPair).mapM (dat (m + 2) h) = some (ps.map fun p => PyData.tuple [.str p.1, .str p.2])
  | [] => rfl
  | x :: xs => by
    rw [List.map_cons, List.mapM_cons, mapM_pairs m h xs]; rfl
def okS (x : Str) : Prop := PyData.canLay0 (.str x) = true
theorem eqvAll_strs : ∀ xs ys : List Str, PyData.eqvAll (xs.map .str) (ys.map .str) = decide (xs = ys)
  | [], [] => by simp [PyData.eqvAll]
  | [], _ :: _ => by simp [PyData.eqvAll]
  | _ :: _, [] => by simp [PyData.eqvAll]
  | x :: xs, y :: ys => by
    simp only [List.map_cons, PyData.eqvAll, PyData.eqv, eqvAll_strs xs ys, List.cons.injEq, Bool.decide_and]
    congr 1
theorem eqvAll_pairs : ∀ xs ys : List (Str × Str), PyData.eqvAll (xs.map fun p => .tuple [.str p.1, .str p.2]) (ys.map fun p => .tuple [.str p.1, .str p.2]) = decide (xs = ys)
  | [], [] => by simp [PyData.eqvAll]
  | [], _ :: _ => by simp [PyData.eqvAll]
  | _ :: _, [] => by simp [PyData.eqvAll]
  | x :: xs, y :: ys => by
    simp only [List.map_cons, PyData.eqvAll, PyData.eqv, eqvAll_pairs xs ys, List.cons.injEq, Bool.decide_and]
    congr 1
    obtain ⟨x1, x2⟩ := x
    obtain ⟨y1, y2⟩ := y
    by_cases h : x1 = y1 <;> by_cases h2 : x2 = y2 <;> simp [h, h2]
theorem shaped_strs {xs : List Str} (h : ∀ x ∈ xs, okS x) : SeqAt.shaped (.list (xs.map .str)) = true := by
  unfold SeqAt.shaped
  rw [Bool.and_eq_true, decide_eq_true_eq]
  refine ⟨canAll fun d hd => ?_, ?_⟩
  · obtain ⟨x, hx, rfl⟩ := List.mem_map.mp hd
    exact h x hx
  · have : PyData.depthAll (xs.map PyData.str) ≤ 0 := depthAll_le fun d hd => by
      obtain ⟨x, hx, rfl⟩ := List.mem_map.mp hd
      exact Nat.le_refl _
    show PyData.depthAll (xs.map PyData.str) + 1 ≤ 64
    omega
theorem shaped_pairs {xs : List (Str × Str)} (h : ∀ x ∈ xs, okS x.1 ∧ okS x.2) : SeqAt.shaped (.list (xs.map fun p => .tuple [.str p.1, .str p.2])) = true := by
  unfold SeqAt.shaped
  rw [Bool.and_eq_true, decide_eq_true_eq]
  refine ⟨canAll fun d hd => ?_, ?_⟩
  · obtain ⟨x, hx, rfl⟩ := List.mem_map.mp hd
    show (PyData.canLay0 (.str x.1) && (PyData.canLay0 (.str x.2) && true)) = true
    rw [(h x hx).1, (h x hx).2]; rfl
  · have : PyData.depthAll (xs.map fun p => PyData.tuple [.str p.1, .str p.2]) ≤ 1 := depthAll_le fun d hd => by
      obtain ⟨x, hx, rfl⟩ := List.mem_map.mp hd
      simp [PyData.depth, PyData.depthAll]
    show PyData.depthAll (xs.map fun p => PyData.tuple [.str p.1, .str p.2]) + 1 ≤ 64
    omega
theorem eq_strs {h : TH} {k k2 : Nat} {xs ys : List Str} (e1 : h[k]? = some (.lst (xs.map T.str))) (e2 : h[k2]? = some (.lst (ys.map T.str))) (h1 : ∀ x ∈ xs, okS x) (h2 : ∀ x ∈ ys, okS x) : fEqB (.ref k) (.ref k2) h = .ok (decide (xs = ys)) h := by
  unfold fEqB
  have d1 : dat 66 h (.ref k) = some (.list (xs.map .str)) := dat_ref e1 (mapM_strs 64 h xs)
  have d2 : dat 66 h (.ref k2) = some (.list (ys.map .str)) := dat_ref e2 (mapM_strs 64 h ys)
  simp only [d1, d2, shaped_strs h1, shaped_strs h2, and_self, if_true]
  show Res.ok (PyData.eqvAll _ _) h = _
  rw [eqvAll_strs]
theorem eq_pairs {h : TH} {k k2 : Nat} {xs ys : List (Str × Str)} (e1 : h[k]? = some (.lst (xs.map ofPair))) (e2 : h[k2]? = some (.lst (ys.map ofPair))) (h1 : ∀ x ∈ xs, okS x.1 ∧ okS x.2) (h2 : ∀ x ∈ ys, okS x.1 ∧ okS x.2) : fEqB (.ref k) (.ref k2) h = .ok (decide (xs = ys)) h := by
  unfold fEqB
  have d1 : dat 66 h (.ref k) = some (.list (xs.map fun p => .tuple [.str p.1, .str p.2])) := dat_ref e1 (mapM_pairs 63 h xs)
  have d2 : dat 66 h (.ref k2) = some (.list (ys.map fun p => .tuple [.str p.1, .str p.2])) := dat_ref e2 (mapM_pairs 63 h ys)
  simp only [d1, d2, shaped_pairs h1, shaped_pairs h2, and_self, if_true]
  show Res.ok (PyData.eqvAll _ _) h = _
  rw [eqvAll_pairs]
theorem in_strs {h : TH} {a : Str} {xs : List Str} (ha : okS a) (hx : ∀ x ∈ xs, okS x) : fInB (.str a) (.tup (xs.map T.str)) h = .ok (decide (a ∈ xs)) h := by
  have d1 : dat 66 h (.str a) = some (.str a) := rfl
  have d2 : (xs.map T.str).mapM (dat 66 h) = some (xs.map .str) := mapM_strs 65 h xs
  have ca : PyData.canLayAll0 (xs.map .str) = true := canAll fun d hd => by
    obtain ⟨x, hx', rfl⟩ := List.mem_map.mp hd
    exact hx x hx'
  have dp : (PyData.str a).depth ≤ 62 := Nat.zero_le _
  have c0 : (PyData.str a).canLay0 = true := ha
  simp only [fInB, itemsOf, d1, d2, ca, dp, c0, and_self, if_true]
  congr 1
  rw [List.any_map, Bool.eq_iff_iff, List.any_eq_true, decide_eq_true_eq]
  constructor
  · rintro ⟨x, hx, e⟩
    have : x = a := by simpa [PyData.eqv] using e
    rw [← this]; exact hx
  · intro hm
    exact ⟨a, hm, by simp [PyData.eqv]⟩
end TL

namespace K44
open PySem PySem.Spec PyProof.Rows L2 TL
def top (i : Nat) : Stmt := PySem.Challenge.pw_pairlands_k44_net_things.main.body.getD i (.Pass ⟨0, 0, 0, 0⟩)
structure Fx (K : PySem.W.Frag) (mg : Str → Option Value) : Prop where
  b_all : mg "all" = none
  b_bool : mg "bool" = none
  b_int : mg "int" = none
  b_isinstance : mg "isinstance" = none
  b_len : mg "len" = none
  b_list : mg "list" = none
  b_range : mg "range" = none
  b_set : mg "set" = none
  b_sorted : mg "sorted" = none
  b_str : mg "str" = none
  b_tuple : mg "tuple" = none
  b_zip : mg "zip" = none
  c_DIGITS : GlV K mg "DIGITS" (.str "0123456789")
  c_LETTERS : GlV K mg "LETTERS" (.str "abcdefghijklmnopqrstuvwxyz")
  c_MOST_NAMES : GlV K mg "MOST_NAMES" (.int 40)
  c_MOST_SIGNS : GlV K mg "MOST_SIGNS" (.int 10)
theorem u66 {k : Nat} {A : Around} (r : Room k A) : A.units + 66 < cLine := by have := r.un; omega
/-! ### _law_cell -/
abbrev st__law_cell : Stmt := top 16
abbrev N__law_cell : List Str := ["script", "k"]
abbrev p__law_cell : List Str := ["script", "k"]
theorem sc__law_cell : FnScope N__law_cell p__law_cell (defScope st__law_cell) := ⟨rfl, rfl, rfl, by decide +kernel, rfl, by decide +kernel, by decide +kernel⟩
def b__law_cell : MS := sSeq (sIf (mB (eBin fLt (eVar 1) (eCall fLen (aCons (eVar 0) (aNil))))) (sRet (eBin fIx (eVar 0) (eVar 1))) (sNil)) (sRet (eC (.int 0)))
def F__law_cell : Fn := runB b__law_cell 0
theorem good__law_cell {P : Program} {w : World} {K : PySem.W.Frag} {mg : Str → Option Value} {base : Heap} {f : Addr} {fd : FuncData} (fx : Fx K mg) (F : FunD K "_law_cell" "_law_cell" (defArgs st__law_cell) (defBody st__law_cell) (defScope st__law_cell) [] [] f fd) (hm : mg "_law_cell" = some (.ref f))  :
    GoodFn P w K mg base 1 "_law_cell" p__law_cell F__law_cell := by
  have sc := sc__law_cell
  refine good_of (k := 0) (N := N__law_cell) F hm sc__law_cell (fun _ _ _ _ _ _ us hl => match us, hl with | [_, _], _ => rfl) fun cdv A outer s H E hr => ?_
  exact dss_cons (ds_if (dt_cmp (of_lt hr.units) (de_var (i := 1)) (de_callB (cf_len) fx.b_len (by decide +kernel) (da_cons (de_var (i := 0)) (da_nil)))) (dss_one (ds_ret (de_ix (de_var (i := 0)) (de_var (i := 1))))) (dss_nil)) (dss_one (ds_ret (de_int)))
/-! ### _law_digits -/
abbrev st__law_digits : Stmt := top 17
abbrev N__law_digits : List Str := ["script", "first", "last", "digits", "k", "cell", "step", "seed"]
abbrev p__law_digits : List Str := ["script", "first", "last"]
theorem sc__law_digits : FnScope N__law_digits p__law_digits (defScope st__law_digits) := ⟨rfl, rfl, rfl, by decide +kernel, rfl, by decide +kernel, by decide +kernel⟩
def b__law_digits : MS := sSeq (sSet 3 (eLst (aNil))) (sSeq (sFor (iR2 (aCons (eVar 1) (aCons (eVar 2) (aNil)))) (gName 4) (sSeq (sSet 5 (eCallF 2 F__law_cell (aCons (eVar 0) (aCons (eVar 4) (aNil))))) (sSeq (sIf (mB (eBin fLt (eVar 5) (eC (.int 0)))) (sSet 5 (eBin fSub (eC (.int 1)) (eBin fMul (eC (.int 2)) (eVar 5)))) (sNil)) (sSeq (sIf (mB (eBin fGt (eCall fLen (aCons (eVar 3) (aNil))) (eC (.int 1500)))) (sBreak) (sNil)) (sIf (mB (eBin fGe (eVar 5) (eBin fPow (eC (.int 10)) (eC (.int 18))))) (sFor (iR1 (aCons (eC (.int 60)) (aNil))) (gName 6) (sIf (mB (eBin fGt (eVar 5) (eC (.int 0)))) (sSeq (sExpr (eMth msAppend (eVar 3) (aCons (eBin fMod (eCall fInt (aCons (eVar 5) (aNil))) (eC (.int 1000))) (aNil)))) (sSet 5 (eBin fDiv (eVar 5) (eC (.int 1000))))) (sNil))) (sSeq (sSet 7 (eBin fMod (eCall fInt (aCons (eBin fAdd (eBin fAdd (eBin fMul (eVar 5) (eC (.int 48271))) (eBin fMul (eVar 4) (eC (.int 69621)))) (eC (.int 11))) (aNil))) (eC (.int 2147483647)))) (sFor (iR1 (aCons (eC (.int 12)) (aNil))) (gName 6) (sSeq (sSet 7 (eBin fMod (eCall fInt (aCons (eBin fAdd (eBin fAdd (eBin fMul (eVar 7) (eC (.int 16807))) (eBin fMul (eC (.int 7)) (eVar 6))) (eC (.int 1))) (aNil))) (eC (.int 2147483647)))) (sExpr (eMth msAppend (eVar 3) (aCons (eBin fMod (eCall fInt (aCons (eBin fDiv (eVar 7) (eC (.int 997))) (aNil))) (eC (.int 1000))) (aNil)))))))))))) (sRet (eVar 3)))
def F__law_digits : Fn := runB b__law_digits 5
theorem good__law_digits {P : Program} {w : World} {K : PySem.W.Frag} {mg : Str → Option Value} {base : Heap} {f : Addr} {fd : FuncData} (fx : Fx K mg) (F : FunD K "_law_digits" "_law_digits" (defArgs st__law_digits) (defBody st__law_digits) (defScope st__law_digits) [] [] f fd) (hm : mg "_law_digits" = some (.ref f)) (g__law_cell : GoodFn P w K mg base 1 "_law_cell" p__law_cell F__law_cell) :
    GoodFn P w K mg base 2 "_law_digits" p__law_digits F__law_digits := by
  have sc := sc__law_digits
  refine good_of (k := 1) (N := N__law_digits) F hm sc__law_digits (fun _ _ _ _ _ _ us hl => match us, hl with | [_, _, _], _ => rfl) fun cdv A outer s H E hr => ?_
  exact dss_cons (ds_set (i := 3) sc.nd (de_lst (da_nil))) (dss_cons (ds_for (vs := [4]) .never rfl (di_rng2 fx.b_range (da_cons (de_var (i := 1)) (da_cons (de_var (i := 2)) (da_nil)))) (dg_name (i := 4) sc.nd) (dss_cons (ds_set (i := 5) sc.nd (de_call g__law_cell (hr.mono (by omega)) (da_cons (de_var (i := 0)) (da_cons (de_var (i := 4)) (da_nil))))) (dss_cons (ds_if (dt_cmp (of_lt hr.units) (de_var (i := 5)) (de_int)) (dss_one (ds_set (i := 5) sc.nd (de_bin (of_sub) (de_int) (de_bin (of_mul) (de_int) (de_var (i := 5)))))) (dss_nil)) (dss_cons (ds_if (dt_cmp (of_gt) (de_callB (cf_len) fx.b_len (by decide +kernel) (da_cons (de_var (i := 3)) (da_nil))) (de_int)) (dss_one (ds_break)) (dss_nil)) (dss_one (ds_if (dt_cmp (of_ge) (de_var (i := 5)) (de_bin (of_pow) (de_int) (de_int))) (dss_one (ds_for (vs := [6]) .never rfl (di_rng1 fx.b_range (da_cons (de_int) (da_nil))) (dg_name (i := 6) sc.nd) (dss_one (ds_if (dt_cmp (of_gt) (de_var (i := 5)) (de_int)) (dss_cons (ds_expr (de_mth mts_append rfl (de_var (i := 3)) (da_cons (de_bin (of_mod) (de_callTy (cf_int) fx.b_int (by decide +kernel) (da_cons (de_var (i := 5)) (da_nil))) (de_int)) (da_nil)))) (dss_one (ds_set (i := 5) sc.nd (de_bin (of_div) (de_var (i := 5)) (de_int))))) (dss_nil))))) (dss_cons (ds_set (i := 7) sc.nd (de_bin (of_mod) (de_callTy (cf_int) fx.b_int (by decide +kernel) (da_cons (de_bin (of_add) (de_bin (of_add) (de_bin (of_mul) (de_var (i := 5)) (de_int)) (de_bin (of_mul) (de_var (i := 4)) (de_int))) (de_int)) (da_nil))) (de_int))) (dss_one (ds_for (vs := [6]) .never rfl (di_rng1 fx.b_range (da_cons (de_int) (da_nil))) (dg_name (i := 6) sc.nd) (dss_cons (ds_set (i := 7) sc.nd (de_bin (of_mod) (de_callTy (cf_int) fx.b_int (by decide +kernel) (da_cons (de_bin (of_add) (de_bin (of_add) (de_bin (of_mul) (de_var (i := 7)) (de_int)) (de_bin (of_mul) (de_int) (de_var (i := 6)))) (de_int)) (da_nil))) (de_int))) (dss_one (ds_expr (de_mth mts_append rfl (de_var (i := 3)) (da_cons (de_bin (of_mod) (de_callTy (cf_int) fx.b_int (by decide +kernel) (da_cons (de_bin (of_div) (de_var (i := 7)) (de_int)) (da_nil))) (de_int)) (da_nil))))))))))))))) (dss_one (ds_ret (de_var (i := 3)))))
/-! ### _law_draw -/
abbrev st__law_draw : Stmt := top 18
abbrev N__law_draw : List Str := ["box", "many", "at"]
abbrev p__law_draw : List Str := ["box", "many"]
theorem sc__law_draw : FnScope N__law_draw p__law_draw (defScope st__law_draw) := ⟨rfl, rfl, rfl, by decide +kernel, rfl, by decide +kernel, by decide +kernel⟩
def b__law_draw : MS := sSeq (sSet 2 (eBin fIx (eVar 0) (eC (.int 1)))) (sSeq (sAsg (eBin fAdd (eVar 2) (eC (.int 1))) (gSub fSetL (eVar 0) (eC (.int 1)))) (sSeq (sIf (mB (eBin fLt (eVar 2) (eCall fLen (aCons (eBin fIx (eVar 0) (eC (.int 0))) (aNil))))) (sRet (eBin fMod (eCall fInt (aCons (eBin fIx (eBin fIx (eVar 0) (eC (.int 0))) (eVar 2)) (aNil))) (eVar 1))) (sNil)) (sRet (eBin fMod (eCall fInt (aCons (eBin fMul (eVar 2) (eC (.int 7))) (aNil))) (eVar 1)))))
def F__law_draw : Fn := runB b__law_draw 1
theorem good__law_draw {P : Program} {w : World} {K : PySem.W.Frag} {mg : Str → Option Value} {base : Heap} {f : Addr} {fd : FuncData} (fx : Fx K mg) (F : FunD K "_law_draw" "_law_draw" (defArgs st__law_draw) (defBody st__law_draw) (defScope st__law_draw) [] [] f fd) (hm : mg "_law_draw" = some (.ref f))  :
    GoodFn P w K mg base 1 "_law_draw" p__law_draw F__law_draw := by
  have sc := sc__law_draw
  refine good_of (k := 0) (N := N__law_draw) F hm sc__law_draw (fun _ _ _ _ _ _ us hl => match us, hl with | [_, _], _ => rfl) fun cdv A outer s H E hr => ?_
  exact dss_cons (ds_set (i := 2) sc.nd (de_ix (de_var (i := 0)) (de_int))) (dss_cons (ds_asg (vs := []) (de_bin (of_add) (de_var (i := 2)) (de_int)) (dg_sub set_L (de_var (i := 0)) (de_int))) (dss_cons (ds_if (dt_cmp (of_lt hr.units) (de_var (i := 2)) (de_callB (cf_len) fx.b_len (by decide +kernel) (da_cons (de_ix (de_var (i := 0)) (de_int)) (da_nil)))) (dss_one (ds_ret (de_bin (of_mod) (de_callTy (cf_int) fx.b_int (by decide +kernel) (da_cons (de_ix (de_ix (de_var (i := 0)) (de_int)) (de_var (i := 2))) (da_nil))) (de_var (i := 1))))) (dss_nil)) (dss_one (ds_ret (de_bin (of_mod) (de_callTy (cf_int) fx.b_int (by decide +kernel) (da_cons (de_bin (of_mul) (de_var (i := 2)) (de_int)) (da_nil))) (de_var (i := 1)))))))
/-! ### _law_net -/
abbrev st__law_net : Stmt := top 22
abbrev N__law_net : List Str := ["box", "many", "thick", "names", "ties", "i", "k", "j"]
abbrev p__law_net : List Str := ["box", "many", "thick"]
theorem sc__law_net : FnScope N__law_net p__law_net (defScope st__law_net) := ⟨rfl, rfl, rfl, by decide +kernel, rfl, by decide +kernel, by decide +kernel⟩
def b__law_net : MS := sSeq (sSet 3 (eLc (iR1 (aCons (eVar 1) (aNil))) (gName 6) (mYes) (eBin fAdd (eC (.str "n")) (eCall fStr (aCons (eVar 6) (aNil)))) [6])) (sSeq (sSet 4 (eLst (aNil))) (sSeq (sFor (iR1 (aCons (eVar 1) (aNil))) (gName 5) (sSet 4 (eBin fAdd (eVar 4) (eLc (iR2 (aCons (eBin fAdd (eVar 5) (eC (.int 1))) (aCons (eVar 1) (aNil)))) (gName 7) (mB (eBin fLt (eCallF 2 F__law_draw (aCons (eVar 0) (aCons (eC (.int 10)) (aNil)))) (eVar 2))) (eTup (aCons (eBin fIx (eVar 3) (eVar 5)) (aCons (eBin fIx (eVar 3) (eVar 7)) (aNil)))) [7])))) (sRet (eTup (aCons (eC (.str "net")) (aCons (eCall fTuple (aCons (eVar 3) (aNil))) (aCons (eCall fTuple (aCons (eVar 4) (aNil))) (aNil))))))))
def F__law_net : Fn := runB b__law_net 5
theorem good__law_net {P : Program} {w : World} {K : PySem.W.Frag} {mg : Str → Option Value} {base : Heap} {f : Addr} {fd : FuncData} (fx : Fx K mg) (F : FunD K "_law_net" "_law_net" (defArgs st__law_net) (defBody st__law_net) (defScope st__law_net) [] [] f fd) (hm : mg "_law_net" = some (.ref f)) (g__law_draw : GoodFn P w K mg base 1 "_law_draw" p__law_draw F__law_draw) :
    GoodFn P w K mg base 2 "_law_net" p__law_net F__law_net := by
  have sc := sc__law_net
  refine good_of (k := 1) (N := N__law_net) F hm sc__law_net (fun _ _ _ _ _ _ us hl => match us, hl with | [_, _, _], _ => rfl) fun cdv A outer s H E hr => ?_
  exact dss_cons (ds_set (i := 3) sc.nd (de_lc (own := [("k", 6)]) rfl sc.nd (blkOk_by (by kernel_rfl)) (di_rng1 fx.b_range (da_cons (de_var (i := 1)) (da_nil))) (fun s H C cl fp => dg_name (i := 6) sc.nd) (fun s H C cl fp => dts_nil) (fun s H C cl fp => de_bin (of_add) (de_str) (de_callTy (cf_str) fx.b_str (by decide +kernel) (da_cons (de_var (i := 6)) (da_nil)))))) (dss_cons (ds_set (i := 4) sc.nd (de_lst (da_nil))) (dss_cons (ds_for (vs := [5]) .never rfl (di_rng1 fx.b_range (da_cons (de_var (i := 1)) (da_nil))) (dg_name (i := 5) sc.nd) (dss_one (ds_set (i := 4) sc.nd (de_bin (of_add) (de_var (i := 4)) (de_lc (own := [("j", 7)]) rfl sc.nd (blkOk_by (by kernel_rfl)) (di_rng2 fx.b_range (da_cons (de_bin (of_add) (de_var (i := 5)) (de_int)) (da_cons (de_var (i := 1)) (da_nil)))) (fun s H C cl fp => dg_name (i := 7) sc.nd) (fun s H C cl fp => dts_one (dt_cmp (of_lt hr.units) (de_call g__law_draw (hr.mono (by omega)) (da_cons (de_var (i := 0)) (da_cons (de_int) (da_nil)))) (de_var (i := 2)))) (fun s H C cl fp => de_tup (da_cons (de_ix (de_var (i := 3)) (de_var (i := 5))) (da_cons (de_ix (de_var (i := 3)) (de_var (i := 7))) (da_nil))))))))) (dss_one (ds_ret (de_tup (da_cons (de_str) (da_cons (de_callTy (cf_tuple) fx.b_tuple (by decide +kernel) (da_cons (de_var (i := 3)) (da_nil))) (da_cons (de_callTy (cf_tuple) fx.b_tuple (by decide +kernel) (da_cons (de_var (i := 4)) (da_nil))) (da_nil)))))))))
/-! ### _law_other -/
abbrev st__law_other : Stmt := top 23
abbrev N__law_other : List Str := ["box", "thing", "turned", "k"]
abbrev p__law_other : List Str := ["box", "thing"]
theorem sc__law_other : FnScope N__law_other p__law_other (defScope st__law_other) := ⟨rfl, rfl, rfl, by decide +kernel, rfl, by decide +kernel, by decide +kernel⟩
def b__law_other : MS := sSeq (sIf (mB (eUn (fIsInst .tup) (eVar 1))) (sSeq (sSet 2 (eCall fTuple (aCons (eLc (iR1 (aCons (eCall fLen (aCons (eVar 1) (aNil))) (aNil))) (gName 3) (mYes) (eBin fIx (eVar 1) (eBin fSub (eBin fSub (eCall fLen (aCons (eVar 1) (aNil))) (eC (.int 1))) (eVar 3))) [3]) (aNil)))) (sRet (eBin fIx (eLst (aCons (eCall fList (aCons (eVar 1) (aNil))) (aCons (eBin fAdd (eVar 1) (eSlice (eVar 1) (oNone) (oSome (eC (.int 1))))) (aCons (eSlice (eVar 1) (oSome (eC (.int 1))) (oNone)) (aCons (eC .non) (aCons (eTup (aNil)) (aCons (eVar 2) (aNil)))))))) (eCallF 2 F__law_draw (aCons (eVar 0) (aCons (eC (.int 6)) (aNil))))))) (sNil)) (sSeq (sIf (mB (eUn (fIsInst .str) (eVar 1))) (sRet (eBin fIx (eLst (aCons (eC (.str "a0")) (aCons (eC (.str "a1")) (aCons (eC (.str "h0")) (aCons (eC (.str "h1")) (aCons (eC (.str "market")) (aCons (eC (.str "a")) (aCons (eC (.str "A")) (aCons (eC (.str "")) (aCons (eC (.str "x y")) (aCons (eC .non) (aCons (eC (.str "abcdefghijk")) (aNil))))))))))))) (eCallF 2 F__law_draw (aCons (eVar 0) (aCons (eC (.int 11)) (aNil)))))) (sNil)) (sSeq (sIf (mB (eBin fIs (eVar 1) (eC .non))) (sRet (eBin fIx (eLst (aCons (eC (.int 0)) (aCons (eC (.str "")) (aCons (eTup (aNil)) (aNil))))) (eCallF 2 F__law_draw (aCons (eVar 0) (aCons (eC (.int 3)) (aNil)))))) (sNil)) (sRet (eBin fIx (eLst (aCons (eBin fAdd (eVar 1) (eC (.int 1))) (aCons (eBin fSub (eVar 1) (eC (.int 1))) (aCons (eC (.bl true)) (aCons (eC .non) (aCons (eC (.int 0)) (aCons (eC (.int 1000)) (aNil)))))))) (eCallF 2 F__law_draw (aCons (eVar 0) (aCons (eC (.int 6)) (aNil))))))))
def F__law_other : Fn := runB b__law_other 2
theorem good__law_other {P : Program} {w : World} {K : PySem.W.Frag} {mg : Str → Option Value} {base : Heap} {f : Addr} {fd : FuncData} (fx : Fx K mg) (F : FunD K "_law_other" "_law_other" (defArgs st__law_other) (defBody st__law_other) (defScope st__law_other) [] [] f fd) (hm : mg "_law_other" = some (.ref f)) (g__law_draw : GoodFn P w K mg base 1 "_law_draw" p__law_draw F__law_draw) :
    GoodFn P w K mg base 2 "_law_other" p__law_other F__law_other := by
  have sc := sc__law_other
  refine good_of (k := 1) (N := N__law_other) F hm sc__law_other (fun _ _ _ _ _ _ us hl => match us, hl with | [_, _], _ => rfl) fun cdv A outer s H E hr => ?_
  exact dss_cons (ds_if (dt_val (de_isinst (c := .tup) fx.b_isinstance (de_var (i := 1)) fx.b_tuple (by decide +kernel))) (dss_cons (ds_set (i := 2) sc.nd (de_callTy (cf_tuple) fx.b_tuple (by decide +kernel) (da_cons (de_lc (own := [("k", 3)]) rfl sc.nd (blkOk_by (by kernel_rfl)) (di_rng1 fx.b_range (da_cons (de_callB (cf_len) fx.b_len (by decide +kernel) (da_cons (de_var (i := 1)) (da_nil))) (da_nil))) (fun s H C cl fp => dg_name (i := 3) sc.nd) (fun s H C cl fp => dts_nil) (fun s H C cl fp => de_ix (de_var (i := 1)) (de_bin (of_sub) (de_bin (of_sub) (de_callB (cf_len) fx.b_len (by decide +kernel) (da_cons (de_var (i := 1)) (da_nil))) (de_int)) (de_var (i := 3))))) (da_nil)))) (dss_one (ds_ret (de_ix (de_lst (da_cons (de_callTy (cf_list rfl) fx.b_list (by decide +kernel) (da_cons (de_var (i := 1)) (da_nil))) (da_cons (de_bin (of_add) (de_var (i := 1)) (de_slice (de_var (i := 1)) (do_none) (do_some (de_int)))) (da_cons (de_slice (de_var (i := 1)) (do_some (de_int)) (do_none)) (da_cons (de_non) (da_cons (de_tup (da_nil)) (da_cons (de_var (i := 2)) (da_nil)))))))) (de_call g__law_draw (hr.mono (by omega)) (da_cons (de_var (i := 0)) (da_cons (de_int) (da_nil)))))))) (dss_nil)) (dss_cons (ds_if (dt_val (de_isinst (c := .str) fx.b_isinstance (de_var (i := 1)) fx.b_str (by decide +kernel))) (dss_one (ds_ret (de_ix (de_lst (da_cons (de_str) (da_cons (de_str) (da_cons (de_str) (da_cons (de_str) (da_cons (de_str) (da_cons (de_str) (da_cons (de_str) (da_cons (de_str) (da_cons (de_str) (da_cons (de_non) (da_cons (de_str) (da_nil))))))))))))) (de_call g__law_draw (hr.mono (by omega)) (da_cons (de_var (i := 0)) (da_cons (de_int) (da_nil))))))) (dss_nil)) (dss_cons (ds_if (dt_cmp (of_is) (de_var (i := 1)) (de_non)) (dss_one (ds_ret (de_ix (de_lst (da_cons (de_int) (da_cons (de_str) (da_cons (de_tup (da_nil)) (da_nil))))) (de_call g__law_draw (hr.mono (by omega)) (da_cons (de_var (i := 0)) (da_cons (de_int) (da_nil))))))) (dss_nil)) (dss_one (ds_ret (de_ix (de_lst (da_cons (de_bin (of_add) (de_var (i := 1)) (de_int)) (da_cons (de_bin (of_sub) (de_var (i := 1)) (de_int)) (da_cons (de_bl) (da_cons (de_non) (da_cons (de_int) (da_cons (de_int) (da_nil)))))))) (de_call g__law_draw (hr.mono (by omega)) (da_cons (de_var (i := 0)) (da_cons (de_int) (da_nil)))))))))
/-! ### _law_changed -/
abbrev st__law_changed : Stmt := top 24
abbrev N__law_changed : List Str := ["box", "thing", "at"]
abbrev p__law_changed : List Str := ["box", "thing"]
theorem sc__law_changed : FnScope N__law_changed p__law_changed (defScope st__law_changed) := ⟨rfl, rfl, rfl, by decide +kernel, rfl, by decide +kernel, by decide +kernel⟩
def b__law_changed (g : Fn) : MS := sSeq (sIf (mOr (mNot (mB (eUn (fIsInst .tup) (eVar 1)))) (mOr (mB (eBin fEq (eVar 1) (eTup (aNil)))) (mB (eBin fEq (eCallF 2 F__law_draw (aCons (eVar 0) (aCons (eC (.int 9)) (aNil)))) (eC (.int 0)))))) (sRet (eCallF 2 F__law_other (aCons (eVar 0) (aCons (eVar 1) (aNil))))) (sNil)) (sSeq (sSet 2 (eBin fMod (eCallF 2 F__law_draw (aCons (eVar 0) (aCons (eC (.int 900)) (aNil)))) (eCall fLen (aCons (eVar 1) (aNil))))) (sRet (eBin fAdd (eBin fAdd (eSlice (eVar 1) (oNone) (oSome (eVar 2))) (eTup (aCons (eCallF 2 g (aCons (eVar 0) (aCons (eBin fIx (eVar 1) (eVar 2)) (aNil)))) (aNil)))) (eSlice (eVar 1) (oSome (eBin fAdd (eVar 2) (eC (.int 1)))) (oNone)))))
def F__law_changed : Fn := recF b__law_changed 1 40
theorem good__law_changed {P : Program} {w : World} {K : PySem.W.Frag} {mg : Str → Option Value} {base : Heap} {f : Addr} {fd : FuncData} (fx : Fx K mg) (F : FunD K "_law_changed" "_law_changed" (defArgs st__law_changed) (defBody st__law_changed) (defScope st__law_changed) [] [] f fd) (hm : mg "_law_changed" = some (.ref f)) (g__law_draw : GoodFn P w K mg base 1 "_law_draw" p__law_draw F__law_draw) (g__law_other : GoodFn P w K mg base 2 "_law_other" p__law_other F__law_other) :
    GoodFn P w K mg base 43 "_law_changed" p__law_changed F__law_changed := by
  have sc := sc__law_changed
  exact good_rec (k := 2) (N := N__law_changed) F hm sc__law_changed (fun _ _ _ _ _ _ us hl => match us, hl with | [_, _], _ => rfl) (fun j g gg cdv A outer s H E hr => by
    exact dss_cons (ds_if ((dw_or (dt_not (dt_val (de_isinst (c := .tup) fx.b_isinstance (de_var (i := 1)) fx.b_tuple (by decide +kernel)))) (dw_or (dt_cmp (of_eq hr.units) (de_var (i := 1)) (de_tup (da_nil))) (dw_or1 (dt_cmp (of_eq hr.units) (de_call g__law_draw (hr.mono (by omega)) (da_cons (de_var (i := 0)) (da_cons (de_int) (da_nil)))) (de_int))))).dt) (dss_one (ds_ret (de_call g__law_other (hr.mono (by omega)) (da_cons (de_var (i := 0)) (da_cons (de_var (i := 1)) (da_nil)))))) (dss_nil)) (dss_cons (ds_set (i := 2) sc.nd (de_bin (of_mod) (de_call g__law_draw (hr.mono (by omega)) (da_cons (de_var (i := 0)) (da_cons (de_int) (da_nil)))) (de_callB (cf_len) fx.b_len (by decide +kernel) (da_cons (de_var (i := 1)) (da_nil))))) (dss_one (ds_ret (de_bin (of_add) (de_bin (of_add) (de_slice (de_var (i := 1)) (do_none) (do_some (de_var (i := 2)))) (de_tup (da_cons (de_call gg (hr.mono (by omega)) (da_cons (de_var (i := 0)) (da_cons (de_ix (de_var (i := 1)) (de_var (i := 2))) (da_nil)))) (da_nil)))) (de_slice (de_var (i := 1)) (do_some (de_bin (of_add) (de_var (i := 2)) (de_int))) (do_none))))))) 40
/-! ### _law_like -/
abbrev st__law_like : Stmt := top 19
abbrev N__law_like : List Str := ["told", "due", "k"]
abbrev p__law_like : List Str := ["told", "due"]
theorem sc__law_like : FnScope N__law_like p__law_like (defScope st__law_like) := ⟨rfl, rfl, rfl, by decide +kernel, rfl, by decide +kernel, by decide +kernel⟩
def b__law_like (g : Fn) : MS := sSeq (sIf (mB (eUn (fIsInst .tup) (eVar 1))) (sSeq (sIf (mOr (mNot (mB (eUn (fIsInst .tup) (eVar 0)))) (mB (eBin fNe (eCall fLen (aCons (eVar 0) (aNil))) (eCall fLen (aCons (eVar 1) (aNil)))))) (sRet (eC (.bl false))) (sNil)) (sRet (eBin fEq (eLc (iR1 (aCons (eCall fLen (aCons (eVar 1) (aNil))) (aNil))) (gName 2) (mNot (mB (eCallF 2 g (aCons (eBin fIx (eVar 0) (eVar 2)) (aCons (eBin fIx (eVar 1) (eVar 2)) (aNil)))))) (eC (.int 1)) [2]) (eLst (aNil))))) (sNil)) (sSeq (sIf (mB (eBin fIs (eVar 1) (eC .non))) (sRet (eBin fIs (eVar 0) (eC .non))) (sNil)) (sSeq (sIf (mB (eBin fIs (eVar 1) (eC (.bl true)))) (sRet (eBin fIs (eVar 0) (eC (.bl true)))) (sNil)) (sSeq (sIf (mB (eBin fIs (eVar 1) (eC (.bl false)))) (sRet (eBin fIs (eVar 0) (eC (.bl false)))) (sNil)) (sSeq (sIf (mB (eUn (fIsInst .str) (eVar 1))) (sRet (eAnd (eUn (fIsInst .str) (eVar 0)) (eBin fEq (eMth msJoin (eC (.str "")) (aCons (eLst (aCons (eVar 0) (aNil))) (aNil))) (eVar 1)))) (sNil)) (sRet (eAnd (eUn (fIsInst .int) (eVar 0)) (eAnd (eNot (eUn (fIsInst .bl) (eVar 0))) (eBin fEq (eVar 0) (eVar 1)))))))))
def F__law_like : Fn := recF b__law_like 1 40
theorem good__law_like {P : Program} {w : World} {K : PySem.W.Frag} {mg : Str → Option Value} {base : Heap} {f : Addr} {fd : FuncData} (fx : Fx K mg) (F : FunD K "_law_like" "_law_like" (defArgs st__law_like) (defBody st__law_like) (defScope st__law_like) [] [] f fd) (hm : mg "_law_like" = some (.ref f))  :
    GoodFn P w K mg base 41 "_law_like" p__law_like F__law_like := by
  have sc := sc__law_like
  exact good_rec (k := 0) (N := N__law_like) F hm sc__law_like (fun _ _ _ _ _ _ us hl => match us, hl with | [_, _], _ => rfl) (fun j g gg cdv A outer s H E hr => by
    exact dss_cons (ds_if (dt_val (de_isinst (c := .tup) fx.b_isinstance (de_var (i := 1)) fx.b_tuple (by decide +kernel))) (dss_cons (ds_if ((dw_or (dt_not (dt_val (de_isinst (c := .tup) fx.b_isinstance (de_var (i := 0)) fx.b_tuple (by decide +kernel)))) (dw_or1 (dt_cmp (of_ne hr.units) (de_callB (cf_len) fx.b_len (by decide +kernel) (da_cons (de_var (i := 0)) (da_nil))) (de_callB (cf_len) fx.b_len (by decide +kernel) (da_cons (de_var (i := 1)) (da_nil)))))).dt) (dss_one (ds_ret (de_bl))) (dss_nil)) (dss_one (ds_ret (de_cmp (of_eq hr.units) (de_lc (own := [("k", 2)]) rfl sc.nd (blkOk_by (by kernel_rfl)) (di_rng1 fx.b_range (da_cons (de_callB (cf_len) fx.b_len (by decide +kernel) (da_cons (de_var (i := 1)) (da_nil))) (da_nil))) (fun s H C cl fp => dg_name (i := 2) sc.nd) (fun s H C cl fp => dts_one (dt_not (dt_val (de_call gg (hr.mono (by omega)) (da_cons (de_ix (de_var (i := 0)) (de_var (i := 2))) (da_cons (de_ix (de_var (i := 1)) (de_var (i := 2))) (da_nil))))))) (fun s H C cl fp => de_int)) (de_lst (da_nil)))))) (dss_nil)) (dss_cons (ds_if (dt_cmp (of_is) (de_var (i := 1)) (de_non)) (dss_one (ds_ret (de_cmp (of_is) (de_var (i := 0)) (de_non)))) (dss_nil)) (dss_cons (ds_if (dt_cmp (of_is) (de_var (i := 1)) (de_bl)) (dss_one (ds_ret (de_cmp (of_is) (de_var (i := 0)) (de_bl)))) (dss_nil)) (dss_cons (ds_if (dt_cmp (of_is) (de_var (i := 1)) (de_bl)) (dss_one (ds_ret (de_cmp (of_is) (de_var (i := 0)) (de_bl)))) (dss_nil)) (dss_cons (ds_if (dt_val (de_isinst (c := .str) fx.b_isinstance (de_var (i := 1)) fx.b_str (by decide +kernel))) (dss_one (ds_ret (de_and (de_isinst (c := .str) fx.b_isinstance (de_var (i := 0)) fx.b_str (by decide +kernel)) (de_one (de_cmp (of_eq hr.units) (de_mth mts_join rfl (de_str) (da_cons (de_lst (da_cons (de_var (i := 0)) (da_nil))) (da_nil))) (de_var (i := 1))))))) (dss_nil)) (dss_one (ds_ret (de_and (de_isinst (c := .int) fx.b_isinstance (de_var (i := 0)) fx.b_int (by decide +kernel)) (de_and (de_not (de_isinst (c := .bl) fx.b_isinstance (de_var (i := 0)) fx.b_bool (by decide +kernel))) (de_one (de_cmp (of_eq hr.units) (de_var (i := 0)) (de_var (i := 1))))))))))))) 40
/-! ### _law_is_name -/
abbrev st__law_is_name : Stmt := top 20
abbrev N__law_is_name : List Str := ["text", "sign"]
abbrev p__law_is_name : List Str := ["text"]
theorem sc__law_is_name : FnScope N__law_is_name p__law_is_name (defScope st__law_is_name) := ⟨rfl, rfl, rfl, by decide +kernel, rfl, by decide +kernel, by decide +kernel⟩
def b__law_is_name : MS := sSeq (sIf (mOr (mNot (mB (eChain fLe fLe (eC (.int 1)) (eCall fLen (aCons (eVar 0) (aNil))) (eC (.int 10))))) (mB (eBin fNotIn (eBin fIx (eVar 0) (eC (.int 0))) (eC (.str "abcdefghijklmnopqrstuvwxyz"))))) (sRet (eC (.bl false))) (sNil)) (sRet (eBin fEq (eLc (iSeq (eVar 0)) (gName 1) (mB (eBin fNotIn (eVar 1) (eC (.str "abcdefghijklmnopqrstuvwxyz0123456789")))) (eVar 1) [1]) (eLst (aNil))))
def F__law_is_name : Fn := runB b__law_is_name 1
theorem good__law_is_name {P : Program} {w : World} {K : PySem.W.Frag} {mg : Str → Option Value} {base : Heap} {f : Addr} {fd : FuncData} (fx : Fx K mg) (F : FunD K "_law_is_name" "_law_is_name" (defArgs st__law_is_name) (defBody st__law_is_name) (defScope st__law_is_name) [] [] f fd) (hm : mg "_law_is_name" = some (.ref f))  :
    GoodFn P w K mg base 1 "_law_is_name" p__law_is_name F__law_is_name := by
  have sc := sc__law_is_name
  refine good_of (k := 0) (N := N__law_is_name) F hm sc__law_is_name (fun _ _ _ _ _ _ us hl => match us, hl with | [_], _ => rfl) fun cdv A outer s H E hr => ?_
  exact dss_cons (ds_if ((dw_or (dt_not (dt_chain (of_le) (of_le) (de_int) (de_callB (cf_len) fx.b_len (by decide +kernel) (da_cons (de_var (i := 0)) (da_nil))) (de_int))) (dw_or1 (dt_cmp (of_notIn hr.units) (de_ix (de_var (i := 0)) (de_int)) (de_str)))).dt) (dss_one (ds_ret (de_bl))) (dss_nil)) (dss_one (ds_ret (de_cmp (of_eq hr.units) (de_lc (own := [("sign", 1)]) rfl sc.nd (blkOk_by (by kernel_rfl)) (di_seq (de_var (i := 0))) (fun s H C cl fp => dg_name (i := 1) sc.nd) (fun s H C cl fp => dts_one (dt_cmp (of_notIn hr.units) (de_var (i := 1)) (de_str))) (fun s H C cl fp => de_var (i := 1))) (de_lst (da_nil)))))
/-! ### _law_named -/
abbrev st__law_named : Stmt := top 21
abbrev N__law_named : List Str := ["thing"]
abbrev p__law_named : List Str := ["thing"]
theorem sc__law_named : FnScope N__law_named p__law_named (defScope st__law_named) := ⟨rfl, rfl, rfl, by decide +kernel, rfl, by decide +kernel, by decide +kernel⟩
def b__law_named : MS := sRet (eAnd (eUn (fIsInst .str) (eVar 0)) (eCallF 1 F__law_is_name (aCons (eVar 0) (aNil))))
def F__law_named : Fn := runB b__law_named 0
theorem good__law_named {P : Program} {w : World} {K : PySem.W.Frag} {mg : Str → Option Value} {base : Heap} {f : Addr} {fd : FuncData} (fx : Fx K mg) (F : FunD K "_law_named" "_law_named" (defArgs st__law_named) (defBody st__law_named) (defScope st__law_named) [] [] f fd) (hm : mg "_law_named" = some (.ref f)) (g__law_is_name : GoodFn P w K mg base 1 "_law_is_name" p__law_is_name F__law_is_name) :
    GoodFn P w K mg base 2 "_law_named" p__law_named F__law_named := by
  have sc := sc__law_named
  refine good_of (k := 1) (N := N__law_named) F hm sc__law_named (fun _ _ _ _ _ _ us hl => match us, hl with | [_], _ => rfl) fun cdv A outer s H E hr => ?_
  exact dss_one (ds_ret (de_and (de_isinst (c := .str) fx.b_isinstance (de_var (i := 0)) fx.b_str (by decide +kernel)) (de_one (de_call g__law_is_name (hr.mono (by omega)) (da_cons (de_var (i := 0)) (da_nil))))))
/-! ### _law_net_right -/
abbrev st__law_net_right : Stmt := top 25
abbrev N__law_net_right : List Str := ["thing", "name", "pair", "one", "other"]
abbrev p__law_net_right : List Str := ["thing"]
theorem sc__law_net_right : FnScope N__law_net_right p__law_net_right (defScope st__law_net_right) := ⟨rfl, rfl, rfl, by decide +kernel, rfl, by decide +kernel, by decide +kernel⟩
def b__law_net_right : MS := sSeq (sIf (mOr (mNot (mB (eUn (fIsInst .tup) (eVar 0)))) (mOr (mB (eBin fNe (eCall fLen (aCons (eVar 0) (aNil))) (eC (.int 3)))) (mOr (mNot (mB (eCallF 2 F__law_like (aCons (eBin fIx (eVar 0) (eC (.int 0))) (aCons (eC (.str "net")) (aNil)))))) (mOr (mNot (mB (eUn (fIsInst .tup) (eBin fIx (eVar 0) (eC (.int 1)))))) (mNot (mB (eUn (fIsInst .tup) (eBin fIx (eVar 0) (eC (.int 2)))))))))) (sRet (eC (.bl false))) (sNil)) (sSeq (sIf (mOr (mB (eBin fNe (eLc (iSeq (eBin fIx (eVar 0) (eC (.int 1)))) (gName 1) (mNot (mB (eCallF 1 F__law_named (aCons (eVar 1) (aNil))))) (eC (.int 1)) [1]) (eLst (aNil)))) (mOr (mB (eBin fNe (eCall fList (aCons (eBin fIx (eVar 0) (eC (.int 1))) (aNil))) (eUn fSortSet (eBin fIx (eVar 0) (eC (.int 1)))))) (mB (eBin fGt (eCall fLen (aCons (eBin fIx (eVar 0) (eC (.int 1))) (aNil))) (eC (.int 40)))))) (sRet (eC (.bl false))) (sNil)) (sSeq (sIf (mB (eBin fNe (eLc (iSeq (eBin fIx (eVar 0) (eC (.int 2)))) (gName 2) (mOr (mNot (mB (eUn (fIsInst .tup) (eVar 2)))) (mOr (mB (eBin fNe (eCall fLen (aCons (eVar 2) (aNil))) (eC (.int 2)))) (mOr (mNot (mB (eUn (fIsInst .str) (eBin fIx (eVar 2) (eC (.int 0)))))) (mNot (mB (eUn (fIsInst .str) (eBin fIx (eVar 2) (eC (.int 1))))))))) (eC (.int 1)) [2]) (eLst (aNil)))) (sRet (eC (.bl false))) (sNil)) (sRet (eAnd (eBin fEq (eLc (iSeq (eBin fIx (eVar 0) (eC (.int 2)))) (gTup (gsCons (gName 3) (gsCons (gName 4) (gsNil)))) (mOr (mB (eBin fNotIn (eVar 3) (eBin fIx (eVar 0) (eC (.int 1))))) (mOr (mB (eBin fNotIn (eVar 4) (eBin fIx (eVar 0) (eC (.int 1))))) (mB (eBin fGe (eVar 3) (eVar 4))))) (eC (.int 1)) [3, 4]) (eLst (aNil))) (eBin fEq (eCall fList (aCons (eBin fIx (eVar 0) (eC (.int 2))) (aNil))) (eUn fSortSet (eBin fIx (eVar 0) (eC (.int 2)))))))))
def F__law_net_right : Fn := runB b__law_net_right 4
theorem good__law_net_right {P : Program} {w : World} {K : PySem.W.Frag} {mg : Str → Option Value} {base : Heap} {f : Addr} {fd : FuncData} (fx : Fx K mg) (F : FunD K "_law_net_right" "_law_net_right" (defArgs st__law_net_right) (defBody st__law_net_right) (defScope st__law_net_right) [] [] f fd) (hm : mg "_law_net_right" = some (.ref f)) (g__law_like : GoodFn P w K mg base 41 "_law_like" p__law_like F__law_like) (g__law_named : GoodFn P w K mg base 2 "_law_named" p__law_named F__law_named) :
    GoodFn P w K mg base 42 "_law_net_right" p__law_net_right F__law_net_right := by
  have sc := sc__law_net_right
  refine good_of (k := 41) (N := N__law_net_right) F hm sc__law_net_right (fun _ _ _ _ _ _ us hl => match us, hl with | [_], _ => rfl) fun cdv A outer s H E hr => ?_
  exact dss_cons (ds_if ((dw_or (dt_not (dt_val (de_isinst (c := .tup) fx.b_isinstance (de_var (i := 0)) fx.b_tuple (by decide +kernel)))) (dw_or (dt_cmp (of_ne hr.units) (de_callB (cf_len) fx.b_len (by decide +kernel) (da_cons (de_var (i := 0)) (da_nil))) (de_int)) (dw_or (dt_not (dt_val (de_call g__law_like (hr.mono (by omega)) (da_cons (de_ix (de_var (i := 0)) (de_int)) (da_cons (de_str) (da_nil)))))) (dw_or (dt_not (dt_val (de_isinst (c := .tup) fx.b_isinstance (de_ix (de_var (i := 0)) (de_int)) fx.b_tuple (by decide +kernel)))) (dw_or1 (dt_not (dt_val (de_isinst (c := .tup) fx.b_isinstance (de_ix (de_var (i := 0)) (de_int)) fx.b_tuple (by decide +kernel))))))))).dt) (dss_one (ds_ret (de_bl))) (dss_nil)) (dss_cons (ds_if ((dw_or (dt_cmp (of_ne hr.units) (de_lc (own := [("name", 1)]) rfl sc.nd (blkOk_by (by kernel_rfl)) (di_seq (de_ix (de_var (i := 0)) (de_int))) (fun s H C cl fp => dg_name (i := 1) sc.nd) (fun s H C cl fp => dts_one (dt_not (dt_val (de_call g__law_named (hr.mono (by omega)) (da_cons (de_var (i := 1)) (da_nil)))))) (fun s H C cl fp => de_int)) (de_lst (da_nil))) (dw_or (dt_cmp (of_ne hr.units) (de_callTy (cf_list rfl) fx.b_list (by decide +kernel) (da_cons (de_ix (de_var (i := 0)) (de_int)) (da_nil))) (de_sortSet fx.b_sorted fx.b_set rfl hr (de_ix (de_var (i := 0)) (de_int)))) (dw_or1 (dt_cmp (of_gt) (de_callB (cf_len) fx.b_len (by decide +kernel) (da_cons (de_ix (de_var (i := 0)) (de_int)) (da_nil))) (de_int))))).dt) (dss_one (ds_ret (de_bl))) (dss_nil)) (dss_cons (ds_if (dt_cmp (of_ne hr.units) (de_lc (own := [("pair", 2)]) rfl sc.nd (blkOk_by (by kernel_rfl)) (di_seq (de_ix (de_var (i := 0)) (de_int))) (fun s H C cl fp => dg_name (i := 2) sc.nd) (fun s H C cl fp => dts_one ((dw_or (dt_not (dt_val (de_isinst (c := .tup) fx.b_isinstance (de_var (i := 2)) fx.b_tuple (by decide +kernel)))) (dw_or (dt_cmp (of_ne hr.units) (de_callB (cf_len) fx.b_len (by decide +kernel) (da_cons (de_var (i := 2)) (da_nil))) (de_int)) (dw_or (dt_not (dt_val (de_isinst (c := .str) fx.b_isinstance (de_ix (de_var (i := 2)) (de_int)) fx.b_str (by decide +kernel)))) (dw_or1 (dt_not (dt_val (de_isinst (c := .str) fx.b_isinstance (de_ix (de_var (i := 2)) (de_int)) fx.b_str (by decide +kernel)))))))).dt)) (fun s H C cl fp => de_int)) (de_lst (da_nil))) (dss_one (ds_ret (de_bl))) (dss_nil)) (dss_one (ds_ret (de_and (de_cmp (of_eq hr.units) (de_lc (own := [("one", 3), ("other", 4)]) rfl sc.nd (blkOk_by (by kernel_rfl)) (di_seq (de_ix (de_var (i := 0)) (de_int))) (fun s H C cl fp => dg_tup (n := 2) rfl (dgs_cons (dg_name (i := 3) sc.nd) (dgs_cons (dg_name (i := 4) sc.nd) (dgs_nil))) (gs_lenS (gs_lenS (gs_len0)))) (fun s H C cl fp => dts_one ((dw_or (dt_cmp (of_notIn hr.units) (de_var (i := 3)) (de_ix (de_var (i := 0)) (de_int))) (dw_or (dt_cmp (of_notIn hr.units) (de_var (i := 4)) (de_ix (de_var (i := 0)) (de_int))) (dw_or1 (dt_cmp (of_ge) (de_var (i := 3)) (de_var (i := 4)))))).dt)) (fun s H C cl fp => de_int)) (de_lst (da_nil))) (de_one (de_cmp (of_eq hr.units) (de_callTy (cf_list rfl) fx.b_list (by decide +kernel) (da_cons (de_ix (de_var (i := 0)) (de_int)) (da_nil))) (de_sortSet fx.b_sorted fx.b_set rfl hr (de_ix (de_var (i := 0)) (de_int))))))))))
/-! ### is_tuple_of -/
abbrev st_is_tuple_of : Stmt := top 7
abbrev N_is_tuple_of : List Str := ["thing", "many"]
abbrev p_is_tuple_of : List Str := ["thing", "many"]
theorem sc_is_tuple_of : FnScope N_is_tuple_of p_is_tuple_of (defScope st_is_tuple_of) := ⟨rfl, rfl, rfl, by decide +kernel, rfl, by decide +kernel, by decide +kernel⟩
def b_is_tuple_of : MS := sRet (eAnd (eUn (fIsInst .tup) (eVar 0)) (eBin fEq (eCall fLen (aCons (eVar 0) (aNil))) (eVar 1)))
def F_is_tuple_of : Fn := runB b_is_tuple_of 0
theorem good_is_tuple_of {P : Program} {w : World} {K : PySem.W.Frag} {mg : Str → Option Value} {base : Heap} {f : Addr} {fd : FuncData} (fx : Fx K mg) (F : FunD K "is_tuple_of" "is_tuple_of" (defArgs st_is_tuple_of) (defBody st_is_tuple_of) (defScope st_is_tuple_of) [] [] f fd) (hm : mg "is_tuple_of" = some (.ref f))  :
    GoodFn P w K mg base 1 "is_tuple_of" p_is_tuple_of F_is_tuple_of := by
  have sc := sc_is_tuple_of
  refine good_of (k := 0) (N := N_is_tuple_of) F hm sc_is_tuple_of (fun _ _ _ _ _ _ us hl => match us, hl with | [_, _], _ => rfl) fun cdv A outer s H E hr => ?_
  exact dss_one (ds_ret (de_and (de_isinst (c := .tup) fx.b_isinstance (de_var (i := 0)) fx.b_tuple (by decide +kernel)) (de_one (de_cmp (of_eq hr.units) (de_callB (cf_len) fx.b_len (by decide +kernel) (da_cons (de_var (i := 0)) (da_nil))) (de_var (i := 1))))))
/-! ### _are_signs -/
abbrev st__are_signs : Stmt := top 4
abbrev N__are_signs : List Str := ["text", "signs", "sign"]
abbrev p__are_signs : List Str := ["text", "signs"]
theorem sc__are_signs : FnScope N__are_signs p__are_signs (defScope st__are_signs) := ⟨rfl, rfl, rfl, by decide +kernel, rfl, by decide +kernel, by decide +kernel⟩
def b__are_signs : MS := sRet (eCall fAll (aCons (eLc (iSeq (eVar 0)) (gName 2) (mYes) (eBin fIn (eVar 2) (eVar 1)) [2]) (aNil)))
def F__are_signs : Fn := runB b__are_signs 1
theorem good__are_signs {P : Program} {w : World} {K : PySem.W.Frag} {mg : Str → Option Value} {base : Heap} {f : Addr} {fd : FuncData} (fx : Fx K mg) (F : FunD K "_are_signs" "_are_signs" (defArgs st__are_signs) (defBody st__are_signs) (defScope st__are_signs) [] [] f fd) (hm : mg "_are_signs" = some (.ref f))  :
    GoodFn P w K mg base 1 "_are_signs" p__are_signs F__are_signs := by
  have sc := sc__are_signs
  refine good_of (k := 0) (N := N__are_signs) F hm sc__are_signs (fun _ _ _ _ _ _ us hl => match us, hl with | [_, _], _ => rfl) fun cdv A outer s H E hr => ?_
  exact dss_one (ds_ret (de_callB (cf_all rfl) fx.b_all (by decide +kernel) (da_cons (de_lc (own := [("sign", 2)]) rfl sc.nd (blkOk_by (by kernel_rfl)) (di_seq (de_var (i := 0))) (fun s H C cl fp => dg_name (i := 2) sc.nd) (fun s H C cl fp => dts_nil) (fun s H C cl fp => de_cmp (of_in hr.units) (de_var (i := 2)) (de_var (i := 1)))) (da_nil))))
/-! ### is_name -/
abbrev st_is_name : Stmt := top 5
abbrev N_is_name : List Str := ["thing"]
abbrev p_is_name : List Str := ["thing"]
theorem sc_is_name : FnScope N_is_name p_is_name (defScope st_is_name) := ⟨rfl, rfl, rfl, by decide +kernel, rfl, by decide +kernel, by decide +kernel⟩
def b_is_name : MS := sSeq (sIf (mOr (mNot (mB (eUn (fIsInst .str) (eVar 0)))) (mNot (mB (eChain fLe fLe (eC (.int 1)) (eCall fLen (aCons (eVar 0) (aNil))) (eC (.int 10)))))) (sRet (eC (.bl false))) (sNil)) (sRet (eAnd (eBin fIn (eBin fIx (eVar 0) (eC (.int 0))) (eC (.str "abcdefghijklmnopqrstuvwxyz"))) (eCallF 2 F__are_signs (aCons (eVar 0) (aCons (eBin fAdd (eC (.str "abcdefghijklmnopqrstuvwxyz")) (eC (.str "0123456789"))) (aNil))))))
def F_is_name : Fn := runB b_is_name 0
theorem good_is_name {P : Program} {w : World} {K : PySem.W.Frag} {mg : Str → Option Value} {base : Heap} {f : Addr} {fd : FuncData} (fx : Fx K mg) (F : FunD K "is_name" "is_name" (defArgs st_is_name) (defBody st_is_name) (defScope st_is_name) [] [] f fd) (hm : mg "is_name" = some (.ref f)) (g__are_signs : GoodFn P w K mg base 1 "_are_signs" p__are_signs F__are_signs) :
    GoodFn P w K mg base 2 "is_name" p_is_name F_is_name := by
  have sc := sc_is_name
  refine good_of (k := 1) (N := N_is_name) F hm sc_is_name (fun _ _ _ _ _ _ us hl => match us, hl with | [_], _ => rfl) fun cdv A outer s H E hr => ?_
  exact dss_cons (ds_if ((dw_or (dt_not (dt_val (de_isinst (c := .str) fx.b_isinstance (de_var (i := 0)) fx.b_str (by decide +kernel)))) (dw_or1 (dt_not (dt_chain (of_le) (of_le) (de_int) (de_callB (cf_len) fx.b_len (by decide +kernel) (da_cons (de_var (i := 0)) (da_nil))) (de_glob fx.c_MOST_SIGNS))))).dt) (dss_one (ds_ret (de_bl))) (dss_nil)) (dss_one (ds_ret (de_and (de_cmp (of_in hr.units) (de_ix (de_var (i := 0)) (de_int)) (de_glob fx.c_LETTERS)) (de_one (de_call g__are_signs (hr.mono (by omega)) (da_cons (de_var (i := 0)) (da_cons (de_bin (of_add) (de_glob fx.c_LETTERS) (de_glob fx.c_DIGITS)) (da_nil))))))))
/-! ### is_ascending -/
abbrev st_is_ascending : Stmt := top 8
abbrev N_is_ascending : List Str := ["parts", "one", "other"]
abbrev p_is_ascending : List Str := ["parts"]
theorem sc_is_ascending : FnScope N_is_ascending p_is_ascending (defScope st_is_ascending) := ⟨rfl, rfl, rfl, by decide +kernel, rfl, by decide +kernel, by decide +kernel⟩
def b_is_ascending : MS := sRet (eCall fAll (aCons (eLc (iZip (aCons (eVar 0) (aCons (eSlice (eVar 0) (oSome (eC (.int 1))) (oNone)) (aNil)))) (gTup (gsCons (gName 1) (gsCons (gName 2) (gsNil)))) (mYes) (eBin fLt (eVar 1) (eVar 2)) [1, 2]) (aNil)))
def F_is_ascending : Fn := runB b_is_ascending 2
theorem good_is_ascending {P : Program} {w : World} {K : PySem.W.Frag} {mg : Str → Option Value} {base : Heap} {f : Addr} {fd : FuncData} (fx : Fx K mg) (F : FunD K "is_ascending" "is_ascending" (defArgs st_is_ascending) (defBody st_is_ascending) (defScope st_is_ascending) [] [] f fd) (hm : mg "is_ascending" = some (.ref f))  :
    GoodFn P w K mg base 1 "is_ascending" p_is_ascending F_is_ascending := by
  have sc := sc_is_ascending
  refine good_of (k := 0) (N := N_is_ascending) F hm sc_is_ascending (fun _ _ _ _ _ _ us hl => match us, hl with | [_], _ => rfl) fun cdv A outer s H E hr => ?_
  exact dss_one (ds_ret (de_callB (cf_all rfl) fx.b_all (by decide +kernel) (da_cons (de_lc (own := [("one", 1), ("other", 2)]) rfl sc.nd (blkOk_by (by kernel_rfl)) (di_zip fx.b_zip (da_cons (de_var (i := 0)) (da_cons (de_slice (de_var (i := 0)) (do_some (de_int)) (do_none)) (da_nil)))) (fun s H C cl fp => dg_tup (n := 2) rfl (dgs_cons (dg_name (i := 1) sc.nd) (dgs_cons (dg_name (i := 2) sc.nd) (dgs_nil))) (gs_lenS (gs_lenS (gs_len0)))) (fun s H C cl fp => dts_nil) (fun s H C cl fp => de_cmp (of_lt hr.units) (de_var (i := 1)) (de_var (i := 2)))) (da_nil))))
/-! ### are_names -/
abbrev st_are_names : Stmt := top 9
abbrev N_are_names : List Str := ["thing", "part"]
abbrev p_are_names : List Str := ["thing"]
theorem sc_are_names : FnScope N_are_names p_are_names (defScope st_are_names) := ⟨rfl, rfl, rfl, by decide +kernel, rfl, by decide +kernel, by decide +kernel⟩
def b_are_names : MS := sSeq (sIf (mNot (mB (eUn (fIsInst .tup) (eVar 0)))) (sRet (eC (.bl false))) (sNil)) (sSeq (sIf (mNot (mB (eCall fAll (aCons (eLc (iSeq (eVar 0)) (gName 1) (mYes) (eCallF 1 F_is_name (aCons (eVar 1) (aNil))) [1]) (aNil))))) (sRet (eC (.bl false))) (sNil)) (sRet (eCallF 1 F_is_ascending (aCons (eVar 0) (aNil)))))
def F_are_names : Fn := runB b_are_names 1
theorem good_are_names {P : Program} {w : World} {K : PySem.W.Frag} {mg : Str → Option Value} {base : Heap} {f : Addr} {fd : FuncData} (fx : Fx K mg) (F : FunD K "are_names" "are_names" (defArgs st_are_names) (defBody st_are_names) (defScope st_are_names) [] [] f fd) (hm : mg "are_names" = some (.ref f)) (g_is_name : GoodFn P w K mg base 2 "is_name" p_is_name F_is_name) (g_is_ascending : GoodFn P w K mg base 1 "is_ascending" p_is_ascending F_is_ascending) :
    GoodFn P w K mg base 3 "are_names" p_are_names F_are_names := by
  have sc := sc_are_names
  refine good_of (k := 2) (N := N_are_names) F hm sc_are_names (fun _ _ _ _ _ _ us hl => match us, hl with | [_], _ => rfl) fun cdv A outer s H E hr => ?_
  exact dss_cons (ds_if (dt_not (dt_val (de_isinst (c := .tup) fx.b_isinstance (de_var (i := 0)) fx.b_tuple (by decide +kernel)))) (dss_one (ds_ret (de_bl))) (dss_nil)) (dss_cons (ds_if (dt_not (dt_val (de_callB (cf_all rfl) fx.b_all (by decide +kernel) (da_cons (de_lc (own := [("part", 1)]) rfl sc.nd (blkOk_by (by kernel_rfl)) (di_seq (de_var (i := 0))) (fun s H C cl fp => dg_name (i := 1) sc.nd) (fun s H C cl fp => dts_nil) (fun s H C cl fp => de_call g_is_name (hr.mono (by omega)) (da_cons (de_var (i := 1)) (da_nil)))) (da_nil))))) (dss_one (ds_ret (de_bl))) (dss_nil)) (dss_one (ds_ret (de_call g_is_ascending (hr.mono (by omega)) (da_cons (de_var (i := 0)) (da_nil))))))
/-! ### is_name_pair -/
abbrev st_is_name_pair : Stmt := top 10
abbrev N_is_name_pair : List Str := ["thing"]
abbrev p_is_name_pair : List Str := ["thing"]
theorem sc_is_name_pair : FnScope N_is_name_pair p_is_name_pair (defScope st_is_name_pair) := ⟨rfl, rfl, rfl, by decide +kernel, rfl, by decide +kernel, by decide +kernel⟩
def b_is_name_pair : MS := sRet (eAnd (eCallF 2 F_is_tuple_of (aCons (eVar 0) (aCons (eC (.int 2)) (aNil)))) (eAnd (eCallF 1 F_is_name (aCons (eBin fIx (eVar 0) (eC (.int 0))) (aNil))) (eCallF 1 F_is_name (aCons (eBin fIx (eVar 0) (eC (.int 1))) (aNil)))))
def F_is_name_pair : Fn := runB b_is_name_pair 0
theorem good_is_name_pair {P : Program} {w : World} {K : PySem.W.Frag} {mg : Str → Option Value} {base : Heap} {f : Addr} {fd : FuncData} (fx : Fx K mg) (F : FunD K "is_name_pair" "is_name_pair" (defArgs st_is_name_pair) (defBody st_is_name_pair) (defScope st_is_name_pair) [] [] f fd) (hm : mg "is_name_pair" = some (.ref f)) (g_is_tuple_of : GoodFn P w K mg base 1 "is_tuple_of" p_is_tuple_of F_is_tuple_of) (g_is_name : GoodFn P w K mg base 2 "is_name" p_is_name F_is_name) :
    GoodFn P w K mg base 3 "is_name_pair" p_is_name_pair F_is_name_pair := by
  have sc := sc_is_name_pair
  refine good_of (k := 2) (N := N_is_name_pair) F hm sc_is_name_pair (fun _ _ _ _ _ _ us hl => match us, hl with | [_], _ => rfl) fun cdv A outer s H E hr => ?_
  exact dss_one (ds_ret (de_and (de_call g_is_tuple_of (hr.mono (by omega)) (da_cons (de_var (i := 0)) (da_cons (de_int) (da_nil)))) (de_and (de_call g_is_name (hr.mono (by omega)) (da_cons (de_ix (de_var (i := 0)) (de_int)) (da_nil))) (de_one (de_call g_is_name (hr.mono (by omega)) (da_cons (de_ix (de_var (i := 0)) (de_int)) (da_nil)))))))
/-! ### are_pairs -/
abbrev st_are_pairs : Stmt := top 11
abbrev N_are_pairs : List Str := ["thing", "part"]
abbrev p_are_pairs : List Str := ["thing"]
theorem sc_are_pairs : FnScope N_are_pairs p_are_pairs (defScope st_are_pairs) := ⟨rfl, rfl, rfl, by decide +kernel, rfl, by decide +kernel, by decide +kernel⟩
def b_are_pairs : MS := sSeq (sIf (mNot (mB (eUn (fIsInst .tup) (eVar 0)))) (sRet (eC (.bl false))) (sNil)) (sSeq (sIf (mNot (mB (eCall fAll (aCons (eLc (iSeq (eVar 0)) (gName 1) (mYes) (eCallF 1 F_is_name_pair (aCons (eVar 1) (aNil))) [1]) (aNil))))) (sRet (eC (.bl false))) (sNil)) (sRet (eCallF 1 F_is_ascending (aCons (eVar 0) (aNil)))))
def F_are_pairs : Fn := runB b_are_pairs 1
theorem good_are_pairs {P : Program} {w : World} {K : PySem.W.Frag} {mg : Str → Option Value} {base : Heap} {f : Addr} {fd : FuncData} (fx : Fx K mg) (F : FunD K "are_pairs" "are_pairs" (defArgs st_are_pairs) (defBody st_are_pairs) (defScope st_are_pairs) [] [] f fd) (hm : mg "are_pairs" = some (.ref f)) (g_is_name_pair : GoodFn P w K mg base 3 "is_name_pair" p_is_name_pair F_is_name_pair) (g_is_ascending : GoodFn P w K mg base 1 "is_ascending" p_is_ascending F_is_ascending) :
    GoodFn P w K mg base 4 "are_pairs" p_are_pairs F_are_pairs := by
  have sc := sc_are_pairs
  refine good_of (k := 3) (N := N_are_pairs) F hm sc_are_pairs (fun _ _ _ _ _ _ us hl => match us, hl with | [_], _ => rfl) fun cdv A outer s H E hr => ?_
  exact dss_cons (ds_if (dt_not (dt_val (de_isinst (c := .tup) fx.b_isinstance (de_var (i := 0)) fx.b_tuple (by decide +kernel)))) (dss_one (ds_ret (de_bl))) (dss_nil)) (dss_cons (ds_if (dt_not (dt_val (de_callB (cf_all rfl) fx.b_all (by decide +kernel) (da_cons (de_lc (own := [("part", 1)]) rfl sc.nd (blkOk_by (by kernel_rfl)) (di_seq (de_var (i := 0))) (fun s H C cl fp => dg_name (i := 1) sc.nd) (fun s H C cl fp => dts_nil) (fun s H C cl fp => de_call g_is_name_pair (hr.mono (by omega)) (da_cons (de_var (i := 1)) (da_nil)))) (da_nil))))) (dss_one (ds_ret (de_bl))) (dss_nil)) (dss_one (ds_ret (de_call g_is_ascending (hr.mono (by omega)) (da_cons (de_var (i := 0)) (da_nil))))))
/-! ### is_net -/
abbrev st_is_net : Stmt := top 14
abbrev N_is_net : List Str := ["thing", "names", "one", "other"]
abbrev p_is_net : List Str := ["thing"]
theorem sc_is_net : FnScope N_is_net p_is_net (defScope st_is_net) := ⟨rfl, rfl, rfl, by decide +kernel, rfl, by decide +kernel, by decide +kernel⟩
def b_is_net : MS := sSeq (sIf (mOr (mNot (mB (eCallF 2 F_is_tuple_of (aCons (eVar 0) (aCons (eC (.int 3)) (aNil)))))) (mB (eBin fNe (eBin fIx (eVar 0) (eC (.int 0))) (eC (.str "net"))))) (sRet (eC (.bl false))) (sNil)) (sSeq (sSet 1 (eBin fIx (eVar 0) (eC (.int 1)))) (sSeq (sIf (mOr (mNot (mB (eCallF 1 F_are_names (aCons (eVar 1) (aNil))))) (mOr (mB (eBin fGt (eCall fLen (aCons (eVar 1) (aNil))) (eC (.int 40)))) (mNot (mB (eCallF 1 F_are_pairs (aCons (eBin fIx (eVar 0) (eC (.int 2))) (aNil))))))) (sRet (eC (.bl false))) (sNil)) (sRet (eCall fAll (aCons (eLc (iSeq (eBin fIx (eVar 0) (eC (.int 2)))) (gTup (gsCons (gName 2) (gsCons (gName 3) (gsNil)))) (mYes) (eAnd (eBin fLt (eVar 2) (eVar 3)) (eAnd (eBin fIn (eVar 2) (eVar 1)) (eBin fIn (eVar 3) (eVar 1)))) [2, 3]) (aNil))))))
def F_is_net : Fn := runB b_is_net 3
theorem good_is_net {P : Program} {w : World} {K : PySem.W.Frag} {mg : Str → Option Value} {base : Heap} {f : Addr} {fd : FuncData} (fx : Fx K mg) (F : FunD K "is_net" "is_net" (defArgs st_is_net) (defBody st_is_net) (defScope st_is_net) [] [] f fd) (hm : mg "is_net" = some (.ref f)) (g_is_tuple_of : GoodFn P w K mg base 1 "is_tuple_of" p_is_tuple_of F_is_tuple_of) (g_are_names : GoodFn P w K mg base 3 "are_names" p_are_names F_are_names) (g_are_pairs : GoodFn P w K mg base 4 "are_pairs" p_are_pairs F_are_pairs) :
    GoodFn P w K mg base 5 "is_net" p_is_net F_is_net := by
  have sc := sc_is_net
  refine good_of (k := 4) (N := N_is_net) F hm sc_is_net (fun _ _ _ _ _ _ us hl => match us, hl with | [_], _ => rfl) fun cdv A outer s H E hr => ?_
  exact dss_cons (ds_if ((dw_or (dt_not (dt_val (de_call g_is_tuple_of (hr.mono (by omega)) (da_cons (de_var (i := 0)) (da_cons (de_int) (da_nil)))))) (dw_or1 (dt_cmp (of_ne hr.units) (de_ix (de_var (i := 0)) (de_int)) (de_str)))).dt) (dss_one (ds_ret (de_bl))) (dss_nil)) (dss_cons (ds_set (i := 1) sc.nd (de_ix (de_var (i := 0)) (de_int))) (dss_cons (ds_if ((dw_or (dt_not (dt_val (de_call g_are_names (hr.mono (by omega)) (da_cons (de_var (i := 1)) (da_nil))))) (dw_or (dt_cmp (of_gt) (de_callB (cf_len) fx.b_len (by decide +kernel) (da_cons (de_var (i := 1)) (da_nil))) (de_glob fx.c_MOST_NAMES)) (dw_or1 (dt_not (dt_val (de_call g_are_pairs (hr.mono (by omega)) (da_cons (de_ix (de_var (i := 0)) (de_int)) (da_nil)))))))).dt) (dss_one (ds_ret (de_bl))) (dss_nil)) (dss_one (ds_ret (de_callB (cf_all rfl) fx.b_all (by decide +kernel) (da_cons (de_lc (own := [("one", 2), ("other", 3)]) rfl sc.nd (blkOk_by (by kernel_rfl)) (di_seq (de_ix (de_var (i := 0)) (de_int))) (fun s H C cl fp => dg_tup (n := 2) rfl (dgs_cons (dg_name (i := 2) sc.nd) (dgs_cons (dg_name (i := 3) sc.nd) (dgs_nil))) (gs_lenS (gs_lenS (gs_len0)))) (fun s H C cl fp => dts_nil) (fun s H C cl fp => de_and (de_cmp (of_lt hr.units) (de_var (i := 2)) (de_var (i := 3))) (de_and (de_cmp (of_in hr.units) (de_var (i := 2)) (de_var (i := 1))) (de_one (de_cmp (of_in hr.units) (de_var (i := 3)) (de_var (i := 1))))))) (da_nil)))))))
/-! ### law -/
abbrev st_law : Stmt := top 26
abbrev N_law : List Str := ["script", "box", "turn", "net", "step", "thing"]
abbrev p_law : List Str := ["script"]
theorem sc_law : FnScope N_law p_law (defScope st_law) := ⟨rfl, rfl, rfl, by decide +kernel, rfl, by decide +kernel, by decide +kernel⟩
def b_law : MS := sSeq (sSet 1 (eLst (aCons (eCallF 3 F__law_digits (aCons (eVar 0) (aCons (eC (.int 0)) (aCons (eC (.int 63)) (aNil))))) (aCons (eC (.int 0)) (aNil))))) (sSeq (sFor (iR1 (aCons (eC (.int 4)) (aNil))) (gName 2) (sSeq (sSet 3 (eCallF 3 F__law_net (aCons (eVar 1) (aCons (eCallF 2 F__law_draw (aCons (eVar 1) (aCons (eC (.int 8)) (aNil)))) (aCons (eBin fAdd (eC (.int 2)) (eCallF 2 F__law_draw (aCons (eVar 1) (aCons (eC (.int 6)) (aNil))))) (aNil)))))) (sFor (iR1 (aCons (eC (.int 5)) (aNil))) (gName 4) (sSeq (sSet 5 (eIf (mB (eBin fGt (eVar 4) (eC (.int 0)))) (eCallF 2 F__law_changed (aCons (eVar 1) (aCons (eVar 3) (aNil)))) (eVar 3))) (sIf (mNot (mB (eCallF 2 F__law_like (aCons (eCallF 1 F_is_net (aCons (eVar 5) (aNil))) (aCons (eCallF 1 F__law_net_right (aCons (eVar 5) (aNil))) (aNil)))))) (sRet (eC (.bl false))) (sNil)))))) (sRet (eC (.bl true))))
def F_law : Fn := runB b_law 5
theorem good_law {P : Program} {w : World} {K : PySem.W.Frag} {mg : Str → Option Value} {base : Heap} {f : Addr} {fd : FuncData} (fx : Fx K mg) (F : FunD K "law" "law" (defArgs st_law) (defBody st_law) (defScope st_law) [] [] f fd) (hm : mg "law" = some (.ref f)) (g__law_digits : GoodFn P w K mg base 2 "_law_digits" p__law_digits F__law_digits) (g__law_draw : GoodFn P w K mg base 1 "_law_draw" p__law_draw F__law_draw) (g__law_net : GoodFn P w K mg base 2 "_law_net" p__law_net F__law_net) (g__law_changed : GoodFn P w K mg base 43 "_law_changed" p__law_changed F__law_changed) (g__law_net_right : GoodFn P w K mg base 42 "_law_net_right" p__law_net_right F__law_net_right) (g_is_net : GoodFn P w K mg base 5 "is_net" p_is_net F_is_net) (g__law_like : GoodFn P w K mg base 41 "_law_like" p__law_like F__law_like) :
    FnOk P w K mg base CX0 44 f fd p_law (spT ⟨P, w, K, mg⟩ 1 F_law) := by
  have sc := sc_law
  refine fnok_of (k := 43) (N := N_law) F sc_law fun cdv A outer s H E hr => ?_
  exact dss_cons (ds_set (i := 1) sc.nd (de_lst (da_cons (de_call g__law_digits (hr.mono (by omega)) (da_cons (de_var (i := 0)) (da_cons (de_int) (da_cons (de_int) (da_nil))))) (da_cons (de_int) (da_nil))))) (dss_cons (ds_for (vs := [2]) .never rfl (di_rng1 fx.b_range (da_cons (de_int) (da_nil))) (dg_name (i := 2) sc.nd) (dss_cons (ds_set (i := 3) sc.nd (de_call g__law_net (hr.mono (by omega)) (da_cons (de_var (i := 1)) (da_cons (de_call g__law_draw (hr.mono (by omega)) (da_cons (de_var (i := 1)) (da_cons (de_int) (da_nil)))) (da_cons (de_bin (of_add) (de_int) (de_call g__law_draw (hr.mono (by omega)) (da_cons (de_var (i := 1)) (da_cons (de_int) (da_nil))))) (da_nil)))))) (dss_one (ds_for (vs := [4]) .never rfl (di_rng1 fx.b_range (da_cons (de_int) (da_nil))) (dg_name (i := 4) sc.nd) (dss_cons (ds_set (i := 5) sc.nd (de_if (dt_cmp (of_gt) (de_var (i := 4)) (de_int)) (de_call g__law_changed (hr.mono (by omega)) (da_cons (de_var (i := 1)) (da_cons (de_var (i := 3)) (da_nil)))) (de_var (i := 3)))) (dss_one (ds_if (dt_not (dt_val (de_call g__law_like (hr.mono (by omega)) (da_cons (de_call g_is_net (hr.mono (by omega)) (da_cons (de_var (i := 5)) (da_nil))) (da_cons (de_call g__law_net_right (hr.mono (by omega)) (da_cons (de_var (i := 5)) (da_nil))) (da_nil)))))) (dss_one (ds_ret (de_bl))) (dss_nil)))))))) (dss_one (ds_ret (de_bl))))
/-! ### the head -/
def d__law_cell : He.DefD := ⟨("_law_cell", none), "_law_cell", "_law_cell", defArgs st__law_cell, defBody st__law_cell, defScope st__law_cell, [], []⟩
def d__law_digits : He.DefD := ⟨("_law_digits", none), "_law_digits", "_law_digits", defArgs st__law_digits, defBody st__law_digits, defScope st__law_digits, [], []⟩
def d__law_draw : He.DefD := ⟨("_law_draw", none), "_law_draw", "_law_draw", defArgs st__law_draw, defBody st__law_draw, defScope st__law_draw, [], []⟩
def d__law_net : He.DefD := ⟨("_law_net", none), "_law_net", "_law_net", defArgs st__law_net, defBody st__law_net, defScope st__law_net, [], []⟩
def d__law_other : He.DefD := ⟨("_law_other", none), "_law_other", "_law_other", defArgs st__law_other, defBody st__law_other, defScope st__law_other, [], []⟩
def d__law_changed : He.DefD := ⟨("_law_changed", none), "_law_changed", "_law_changed", defArgs st__law_changed, defBody st__law_changed, defScope st__law_changed, [], []⟩
def d__law_like : He.DefD := ⟨("_law_like", none), "_law_like", "_law_like", defArgs st__law_like, defBody st__law_like, defScope st__law_like, [], []⟩
def d__law_is_name : He.DefD := ⟨("_law_is_name", none), "_law_is_name", "_law_is_name", defArgs st__law_is_name, defBody st__law_is_name, defScope st__law_is_name, [], []⟩
def d__law_named : He.DefD := ⟨("_law_named", none), "_law_named", "_law_named", defArgs st__law_named, defBody st__law_named, defScope st__law_named, [], []⟩
def d__law_net_right : He.DefD := ⟨("_law_net_right", none), "_law_net_right", "_law_net_right", defArgs st__law_net_right, defBody st__law_net_right, defScope st__law_net_right, [], []⟩
def d_is_tuple_of : He.DefD := ⟨("is_tuple_of", none), "is_tuple_of", "is_tuple_of", defArgs st_is_tuple_of, defBody st_is_tuple_of, defScope st_is_tuple_of, [], []⟩
def d__are_signs : He.DefD := ⟨("_are_signs", none), "_are_signs", "_are_signs", defArgs st__are_signs, defBody st__are_signs, defScope st__are_signs, [], []⟩
def d_is_name : He.DefD := ⟨("is_name", none), "is_name", "is_name", defArgs st_is_name, defBody st_is_name, defScope st_is_name, [], []⟩
def d_is_ascending : He.DefD := ⟨("is_ascending", none), "is_ascending", "is_ascending", defArgs st_is_ascending, defBody st_is_ascending, defScope st_is_ascending, [], []⟩
def d_are_names : He.DefD := ⟨("are_names", none), "are_names", "are_names", defArgs st_are_names, defBody st_are_names, defScope st_are_names, [], []⟩
def d_is_name_pair : He.DefD := ⟨("is_name_pair", none), "is_name_pair", "is_name_pair", defArgs st_is_name_pair, defBody st_is_name_pair, defScope st_is_name_pair, [], []⟩
def d_are_pairs : He.DefD := ⟨("are_pairs", none), "are_pairs", "are_pairs", defArgs st_are_pairs, defBody st_are_pairs, defScope st_are_pairs, [], []⟩
def d_is_net : He.DefD := ⟨("is_net", none), "is_net", "is_net", defArgs st_is_net, defBody st_is_net, defScope st_is_net, [], []⟩
def d_law : He.DefD := ⟨("law", none), "law", "law", defArgs st_law, defBody st_law, defScope st_law, [], []⟩
def fn : List He.DefD := [d__law_cell, d__law_digits, d__law_draw, d__law_net, d__law_other, d__law_changed, d__law_like, d__law_is_name, d__law_named, d__law_net_right, d_is_tuple_of, d__are_signs, d_is_name, d_is_ascending, d_are_names, d_is_name_pair, d_are_pairs, d_is_net, d_law]
def fa : List He.Fa := [.glo "_law_cell", .glo "_law_digits", .glo "_law_draw", .glo "_law_net", .glo "_law_other", .glo "_law_changed", .glo "_law_like", .glo "_law_is_name", .glo "_law_named", .glo "_law_net_right", .glo "is_tuple_of", .glo "_are_signs", .glo "is_name", .glo "is_ascending", .glo "are_names", .glo "is_name_pair", .glo "are_pairs", .glo "is_net", .glo "law", .free "all", .free "bool", .free "int", .free "isinstance", .free "len", .free "list", .free "range", .free "set", .free "sorted", .free "str", .free "tuple", .free "zip", .str "DIGITS" "0123456789", .str "LETTERS" "abcdefghijklmnopqrstuvwxyz", .int "MOST_NAMES" 40, .int "MOST_SIGNS" 10]
abbrev R : PySem.W.OpenRow := PySem.W.OpenLaw.row PySem.Challenge.rw_pairlands_k44_net_things
abbrev hk : PySem.W.Hook := He.hookD 4 fa fn
def ob (s : PySem.W.SharedT) : He.AlD := He.obsDG 4 fa fn (HandSHeadRun.getT s)
theorem ob_eq (s : PySem.W.SharedT) : ob s = hk.obs s.abs := He.obsDG_eq (HandSHeadRun.getT_eq s)
def loose : List PySem.Str := ["LETTERS", "DIGITS", "MOST_SIGNS", "_are_signs", "is_name", "is_tuple_of", "is_ascending", "are_names", "is_name_pair", "are_pairs", "MOST_NAMES", "is_net", "_law_cell", "_law_digits", "_law_draw", "_law_like", "_law_is_name", "_law_named", "_law_net", "_law_other", "_law_changed", "_law_net_right"]
theorem run (w : World) : HandSHeadRun.RunEq R (PySem.W.view R.prog [26]) hk ob 4000 loose w := by
  intro os
  kernel_rfl
section
variable {P : Program} {w : World} {K : PySem.W.Frag} {h : Heap} {mg : Str → Option Value} {base : Heap}
theorem fx_of (X : K.In h) (G : h.Ns mainGlobals mg) (c : He.SaysD fa fn K) : Fx K mg where
  b_all := He.free_ok X G (c.fact 19 (f := .free "all") rfl)
  b_bool := He.free_ok X G (c.fact 20 (f := .free "bool") rfl)
  b_int := He.free_ok X G (c.fact 21 (f := .free "int") rfl)
  b_isinstance := He.free_ok X G (c.fact 22 (f := .free "isinstance") rfl)
  b_len := He.free_ok X G (c.fact 23 (f := .free "len") rfl)
  b_list := He.free_ok X G (c.fact 24 (f := .free "list") rfl)
  b_range := He.free_ok X G (c.fact 25 (f := .free "range") rfl)
  b_set := He.free_ok X G (c.fact 26 (f := .free "set") rfl)
  b_sorted := He.free_ok X G (c.fact 27 (f := .free "sorted") rfl)
  b_str := He.free_ok X G (c.fact 28 (f := .free "str") rfl)
  b_tuple := He.free_ok X G (c.fact 29 (f := .free "tuple") rfl)
  b_zip := He.free_ok X G (c.fact 30 (f := .free "zip") rfl)
  c_DIGITS := gl_str (He.str_ok X G (c.fact 31 (f := .str "DIGITS" "0123456789") rfl))
  c_LETTERS := gl_str (He.str_ok X G (c.fact 32 (f := .str "LETTERS" "abcdefghijklmnopqrstuvwxyz") rfl))
  c_MOST_NAMES := gl_int (He.int_ok X G (c.fact 33 (f := .int "MOST_NAMES" 40) rfl))
  c_MOST_SIGNS := gl_int (He.int_ok X G (c.fact 34 (f := .int "MOST_SIGNS" 10) rfl))
theorem gd__law_cell (X : K.In h) (G : h.Ns mainGlobals mg) (c : He.SaysD fa fn K) : GoodFn P w K mg base 1 "_law_cell" p__law_cell F__law_cell := by
  obtain ⟨fd, F⟩ := c.def_ 0 (d := d__law_cell) rfl
  exact good__law_cell (fx_of X G c) F (He.glo_ok X G (c.fact 0 (f := .glo "_law_cell") rfl)) 
theorem gd__law_digits (X : K.In h) (G : h.Ns mainGlobals mg) (c : He.SaysD fa fn K) : GoodFn P w K mg base 2 "_law_digits" p__law_digits F__law_digits := by
  obtain ⟨fd, F⟩ := c.def_ 1 (d := d__law_digits) rfl
  exact good__law_digits (fx_of X G c) F (He.glo_ok X G (c.fact 1 (f := .glo "_law_digits") rfl)) (gd__law_cell X G c)
theorem gd__law_draw (X : K.In h) (G : h.Ns mainGlobals mg) (c : He.SaysD fa fn K) : GoodFn P w K mg base 1 "_law_draw" p__law_draw F__law_draw := by
  obtain ⟨fd, F⟩ := c.def_ 2 (d := d__law_draw) rfl
  exact good__law_draw (fx_of X G c) F (He.glo_ok X G (c.fact 2 (f := .glo "_law_draw") rfl)) 
theorem gd__law_net (X : K.In h) (G : h.Ns mainGlobals mg) (c : He.SaysD fa fn K) : GoodFn P w K mg base 2 "_law_net" p__law_net F__law_net := by
  obtain ⟨fd, F⟩ := c.def_ 3 (d := d__law_net) rfl
  exact good__law_net (fx_of X G c) F (He.glo_ok X G (c.fact 3 (f := .glo "_law_net") rfl)) (gd__law_draw X G c)
theorem gd__law_other (X : K.In h) (G : h.Ns mainGlobals mg) (c : He.SaysD fa fn K) : GoodFn P w K mg base 2 "_law_other" p__law_other F__law_other := by
  obtain ⟨fd, F⟩ := c.def_ 4 (d := d__law_other) rfl
  exact good__law_other (fx_of X G c) F (He.glo_ok X G (c.fact 4 (f := .glo "_law_other") rfl)) (gd__law_draw X G c)
theorem gd__law_changed (X : K.In h) (G : h.Ns mainGlobals mg) (c : He.SaysD fa fn K) : GoodFn P w K mg base 43 "_law_changed" p__law_changed F__law_changed := by
  obtain ⟨fd, F⟩ := c.def_ 5 (d := d__law_changed) rfl
  exact good__law_changed (fx_of X G c) F (He.glo_ok X G (c.fact 5 (f := .glo "_law_changed") rfl)) (gd__law_draw X G c) (gd__law_other X G c)
theorem gd__law_like (X : K.In h) (G : h.Ns mainGlobals mg) (c : He.SaysD fa fn K) : GoodFn P w K mg base 41 "_law_like" p__law_like F__law_like := by
  obtain ⟨fd, F⟩ := c.def_ 6 (d := d__law_like) rfl
  exact good__law_like (fx_of X G c) F (He.glo_ok X G (c.fact 6 (f := .glo "_law_like") rfl)) 
theorem gd__law_is_name (X : K.In h) (G : h.Ns mainGlobals mg) (c : He.SaysD fa fn K) : GoodFn P w K mg base 1 "_law_is_name" p__law_is_name F__law_is_name := by
  obtain ⟨fd, F⟩ := c.def_ 7 (d := d__law_is_name) rfl
  exact good__law_is_name (fx_of X G c) F (He.glo_ok X G (c.fact 7 (f := .glo "_law_is_name") rfl)) 
theorem gd__law_named (X : K.In h) (G : h.Ns mainGlobals mg) (c : He.SaysD fa fn K) : GoodFn P w K mg base 2 "_law_named" p__law_named F__law_named := by
  obtain ⟨fd, F⟩ := c.def_ 8 (d := d__law_named) rfl
  exact good__law_named (fx_of X G c) F (He.glo_ok X G (c.fact 8 (f := .glo "_law_named") rfl)) (gd__law_is_name X G c)
theorem gd__law_net_right (X : K.In h) (G : h.Ns mainGlobals mg) (c : He.SaysD fa fn K) : GoodFn P w K mg base 42 "_law_net_right" p__law_net_right F__law_net_right := by
  obtain ⟨fd, F⟩ := c.def_ 9 (d := d__law_net_right) rfl
  exact good__law_net_right (fx_of X G c) F (He.glo_ok X G (c.fact 9 (f := .glo "_law_net_right") rfl)) (gd__law_like X G c) (gd__law_named X G c)
theorem gd_is_tuple_of (X : K.In h) (G : h.Ns mainGlobals mg) (c : He.SaysD fa fn K) : GoodFn P w K mg base 1 "is_tuple_of" p_is_tuple_of F_is_tuple_of := by
  obtain ⟨fd, F⟩ := c.def_ 10 (d := d_is_tuple_of) rfl
  exact good_is_tuple_of (fx_of X G c) F (He.glo_ok X G (c.fact 10 (f := .glo "is_tuple_of") rfl)) 
theorem gd__are_signs (X : K.In h) (G : h.Ns mainGlobals mg) (c : He.SaysD fa fn K) : GoodFn P w K mg base 1 "_are_signs" p__are_signs F__are_signs := by
  obtain ⟨fd, F⟩ := c.def_ 11 (d := d__are_signs) rfl
  exact good__are_signs (fx_of X G c) F (He.glo_ok X G (c.fact 11 (f := .glo "_are_signs") rfl)) 
theorem gd_is_name (X : K.In h) (G : h.Ns mainGlobals mg) (c : He.SaysD fa fn K) : GoodFn P w K mg base 2 "is_name" p_is_name F_is_name := by
  obtain ⟨fd, F⟩ := c.def_ 12 (d := d_is_name) rfl
  exact good_is_name (fx_of X G c) F (He.glo_ok X G (c.fact 12 (f := .glo "is_name") rfl)) (gd__are_signs X G c)
theorem gd_is_ascending (X : K.In h) (G : h.Ns mainGlobals mg) (c : He.SaysD fa fn K) : GoodFn P w K mg base 1 "is_ascending" p_is_ascending F_is_ascending := by
  obtain ⟨fd, F⟩ := c.def_ 13 (d := d_is_ascending) rfl
  exact good_is_ascending (fx_of X G c) F (He.glo_ok X G (c.fact 13 (f := .glo "is_ascending") rfl)) 
theorem gd_are_names (X : K.In h) (G : h.Ns mainGlobals mg) (c : He.SaysD fa fn K) : GoodFn P w K mg base 3 "are_names" p_are_names F_are_names := by
  obtain ⟨fd, F⟩ := c.def_ 14 (d := d_are_names) rfl
  exact good_are_names (fx_of X G c) F (He.glo_ok X G (c.fact 14 (f := .glo "are_names") rfl)) (gd_is_name X G c) (gd_is_ascending X G c)
theorem gd_is_name_pair (X : K.In h) (G : h.Ns mainGlobals mg) (c : He.SaysD fa fn K) : GoodFn P w K mg base 3 "is_name_pair" p_is_name_pair F_is_name_pair := by
  obtain ⟨fd, F⟩ := c.def_ 15 (d := d_is_name_pair) rfl
  exact good_is_name_pair (fx_of X G c) F (He.glo_ok X G (c.fact 15 (f := .glo "is_name_pair") rfl)) (gd_is_tuple_of X G c) (gd_is_name X G c)
theorem gd_are_pairs (X : K.In h) (G : h.Ns mainGlobals mg) (c : He.SaysD fa fn K) : GoodFn P w K mg base 4 "are_pairs" p_are_pairs F_are_pairs := by
  obtain ⟨fd, F⟩ := c.def_ 16 (d := d_are_pairs) rfl
  exact good_are_pairs (fx_of X G c) F (He.glo_ok X G (c.fact 16 (f := .glo "are_pairs") rfl)) (gd_is_name_pair X G c) (gd_is_ascending X G c)
theorem gd_is_net (X : K.In h) (G : h.Ns mainGlobals mg) (c : He.SaysD fa fn K) : GoodFn P w K mg base 5 "is_net" p_is_net F_is_net := by
  obtain ⟨fd, F⟩ := c.def_ 17 (d := d_is_net) rfl
  exact good_is_net (fx_of X G c) F (He.glo_ok X G (c.fact 17 (f := .glo "is_net") rfl)) (gd_is_tuple_of X G c) (gd_are_names X G c) (gd_are_pairs X G c)
def spLaw (K : PySem.W.Frag) : Sp := fun vs H Q _ => ∃ (a : Addr) (ns : List Int), vs = [.ref a] ∧ ns.length ≤ 63 ∧ SqS K H a (ns.map V.int) ∧ ∀ H', Q (.bl true) H'
/-- what is left to show -/
def Sem : Prop := ∀ ns : List Int, ns.length ≤ 63 → ∃ th, F_law [.scr ns] [] = .ok (.bl true) th
theorem law_ok (S : Sem) (X : K.In h) (G : h.Ns mainGlobals mg) (c : He.SaysD fa fn K) {f : Addr} (hf : mg "law" = some (.ref f)) :
    ∃ fd : FuncData, (∀ (s : Shared) (v : Value), BindsTo s fd ⟨[v], []⟩ [("script", v)]) ∧ ∀ base : Heap, K.In base → base.Ns mainGlobals mg → FnOk P w K mg base CX0 44 f fd ["script"] (spLaw K) := by
  obtain ⟨fd, F⟩ := c.def_ 18 (d := d_law) rfl
  have e := hf.symm.trans (He.glo_ok X G (c.fact 18 (f := .glo "law") rfl))
  cases e
  have b := FunD.bindsA (ps := ["script"]) F fun _ _ _ _ _ _ us hl => match us, hl with | [_], _ => rfl
  refine ⟨fd, fun s v => b s [v] rfl, fun base XB GB => ?_⟩
  refine law_of (good_law (fx_of X G c) F (He.glo_ok X G (c.fact 18 (f := .glo "law") rfl)) (gd__law_digits X G c) (gd__law_draw X G c) (gd__law_net X G c) (gd__law_changed X G c) (gd__law_net_right X G c) (gd_is_net X G c) (gd__law_like X G c)) fun vs H Q E hsp => ?_
  obtain ⟨a, ns, rfl, hl, hS, hQ⟩ := hsp
  obtain ⟨th, e⟩ := S ns hl
  exact law_sp e hS hQ
end
theorem holds (S : Sem) : PySem.Challenge.rw_pairlands_k44_net_things.Holds := by
  w_on; o_law
  refine HandSHeadRun.head_any (r := PySem.W.OpenLaw.row PySem.Challenge.rw_pairlands_k44_net_things) (q := PySem.W.view (PySem.W.OpenLaw.row PySem.Challenge.rw_pairlands_k44_net_things).prog [26]) (H := hk) (ob := ob) (M := 4000) (loose := loose) (d := HandSHeadRun.topDef (PySem.W.OpenLaw.row PySem.Challenge.rw_pairlands_k44_net_things).prog 26) (kwd := []) ob_eq
    (by kernel_rfl) (fun s => by kernel_rfl) run (by kernel_rfl) (by kernel_rfl) (by kernel_rfl) (by rfl) (by first | assumption | decide +kernel) (by decide +kernel) ⟨rfl, rfl, rfl, rfl, rfl, by decide +kernel⟩ ?hw ?hc
  case hw => w_witness2
  case hc =>
    refine L2.walk_ofE (l := PySem.Challenge.rw_pairlands_k44_net_things) (n := 63) (k := 44) (x := "script") (CX := L2.CX0) rfl (by decide) (by kernel_rfl) ⟨rfl, by decide, by decide⟩ ?F (fun _ _ _ _ z => z)
    intro w mg fa h Y G hmg0
    obtain ⟨K, KX, c⟩ := Y
    have hmg : mg ("law" : PySem.Str) = some (.ref fa) := by
      have e : (HandSHeadRun.topDef (PySem.W.OpenLaw.row PySem.Challenge.rw_pairlands_k44_net_things).prog 26).name = ("law" : PySem.Str) := by kernel_rfl
      rw [← e]
      exact hmg0
    obtain ⟨fd, hb, hF⟩ := law_ok (P := PySem.Challenge.rw_pairlands_k44_net_things.prog) (w := w) S KX G c hmg
    exact ⟨K, fd, spLaw K, KX, hb, fun H a ns hl hO hS => ⟨a, ns, rfl, hl, sqs_of hO hS, fun _ => rfl⟩, hF⟩
end K44

namespace K44
open PySem PySem.Spec PyProof.Rows L2 TL
abbrev LET : Str := "abcdefghijklmnopqrstuvwxyz"
abbrev SGN : Str := "abcdefghijklmnopqrstuvwxyz0123456789"
def signsB (x y : Str) : Bool := x.cps.toList.all fun c => inS ⟨#[c]⟩ y
theorem are_signs_eq (x y : Str) (h : TH) (hx : x.length ≤ 100) : ∃ h', Gr h h' ∧ F__are_signs [.str x, .str y] h = .ok (.bl (signsB x y)) h' := by
  obtain ⟨h', g, e⟩ := all_lc (it := iSeq (eVar 0)) (g := gName 2) (e := eBin fIn (eVar 2) (eVar 1)) (vs := [2]) (σ := [some (.str x), some (.str y), none]) (h := h) (J := fun i _ => some ((x.cps[i]?).map fun c => Yv.val (.str ⟨#[c]⟩)))
    (ys := x.cps.toList.map fun c => Yv.val (.str ⟨#[c]⟩)) (q := fun z => match z with | .val (.str c) => inS c y | _ => false)
    ⟨h, by simp [iSeq, eVar, itSeq], Gr.refl h⟩ (fun i h' _ => by rw [strY]) (by rw [List.length_map, Array.length_toList]; have : x.length = x.cps.size := rfl; omega)
    fun z hz h' _ => by
      obtain ⟨c, _, rfl⟩ := List.mem_map.mp hz
      exact ⟨_, h', rfl, by simp [eBin, eVar, wipeT, fIn, fInB, inS], Gr.refl _⟩
  refine ⟨h', g, ?_⟩
  have e' : eCall fAll (aCons (eLc (iSeq (eVar 0)) (gName 2) mYes (eBin fIn (eVar 2) (eVar 1)) [2]) aNil) ([T.str x, T.str y].map some ++ List.replicate 1 none) h = _ := e
  simp only [F__are_signs, b__are_signs, runB, sRet, e', of_ok, signsB, List.all_map]
  rfl
/-- a name -/
def headB (x : Str) : Bool := match x.cps.toList with
  | c :: _ => inS ⟨#[c]⟩ LET
  | [] => false
def nameB (x : Str) : Bool := decide (1 ≤ x.length) && decide (x.length ≤ 10) && headB x && signsB x SGN
def isNm : T → Bool
  | .str x => nameB x
  | _ => false
theorem head_ix {x : Str} (h0 : 1 ≤ x.length) (h1 : x.length ≤ 10) (h : TH) : ∃ c, fIx (.str x) (.int 0) h = .ok (.str ⟨#[c]⟩) h ∧ headB x = inS ⟨#[c]⟩ LET := by
  have hl : x.length = x.cps.toList.length := by rw [Array.length_toList]; rfl
  cases e : x.cps.toList with
  | nil => rw [e] at hl; simp at hl; omega
  | cons c r =>
    refine ⟨c, ?_, by unfold headB; rw [e]⟩
    have a : atI (c :: r) 0 = some c := by
      unfold atI ixN
      rw [if_pos (by decide), if_pos (by simp)]; rfl
    simp only [fIx, e, a]
    rw [if_pos (by rw [sizeLine_eq]; omega)]
theorem cat_sgn : LET ++ ("0123456789" : Str) = SGN := by decide
theorem is_name_eq {b L n : Nat} {t : T} {h : TH} (x : Gd b L h n t) : ∃ h', Gr h h' ∧ F_is_name [t] h = .ok (.bl (isNm t)) h' := by
  have e0 := inst_str x
  cases t with
  | str z =>
    have hz : z.length ≤ 100 := by
      cases n with
      | zero => exact x.elim
      | succ n => exact x.1
    have hs : z.length ≤ sizeLine := by rw [sizeLine_eq]; omega
    by_cases h1 : 1 ≤ z.length
    · by_cases h2 : z.length ≤ 10
      · obtain ⟨c, e1, e2⟩ := head_ix h1 h2 h
        have h1' : (1 : Int) ≤ z.length := by omega
        have h2' : (z.length : Int) ≤ 10 := by omega
        obtain ⟨h', g, e3⟩ := are_signs_eq z SGN h hz
        cases hc : inS ⟨#[c]⟩ LET with
        | false =>
          refine ⟨h, Gr.refl h, ?_⟩
          simp only [inS] at hc
          simp [F_is_name, b_is_name, runB, sSeq, sIf, SRes.of, SRes.then, mOr, mNot, mB, eUn, eVar, e0, isS, eChain, eC, eCall, aCons, aNil, fLen, hs, fLe, h1', h2', sNil, sRet, eAnd, eBin, e1, fIn, fInB, hc, isNm, nameB, e2, inS]
        | true =>
          refine ⟨h', g, ?_⟩
          simp only [inS] at hc
          have l1 : LET.length + (("0123456789" : Str)).length ≤ sizeLine := by rw [sizeLine_eq]; decide
          simp [F_is_name, b_is_name, runB, sSeq, sIf, SRes.of, SRes.then, mOr, mNot, mB, eUn, eVar, e0, isS, eChain, eC, eCall, aCons, aNil, fLen, hs, fLe, h1', h2', sNil, sRet, eAnd, eBin, e1, fIn, fInB, hc, isNm, nameB, e2, inS, eCallF, fAdd, l1, cat_sgn, e3, h1, h2]
      · refine ⟨h, Gr.refl h, ?_⟩
        have h1' : (1 : Int) ≤ z.length := by omega
        have h2' : ¬ (z.length : Int) ≤ 10 := by omega
        simp [F_is_name, b_is_name, runB, sSeq, sIf, SRes.of, SRes.then, mOr, mNot, mB, eUn, eVar, e0, isS, eChain, eC, eCall, aCons, aNil, fLen, hs, fLe, h1', h2', sNil, sRet, isNm, nameB, h2]
    · refine ⟨h, Gr.refl h, ?_⟩
      have h1' : ¬ (1 : Int) ≤ z.length := by omega
      simp [F_is_name, b_is_name, runB, sSeq, sIf, SRes.of, SRes.then, mOr, mNot, mB, eUn, eVar, e0, isS, eChain, eC, eCall, aCons, aNil, fLen, hs, fLe, h1', sNil, sRet, isNm, nameB, h1]
  | _ =>
    refine ⟨h, Gr.refl h, ?_⟩
    simp [F_is_name, b_is_name, runB, sSeq, sIf, SRes.of, SRes.then, mOr, mNot, mB, eUn, eVar, e0, isS, sRet, eC, isNm]
def qv (f : T → Bool) : Yv → Bool
  | .val t => f t
  | _ => false
def q2 (f : T → T → Bool) : Yv → Bool
  | .parts [x, y] => f x y
  | .val (.tup [x, y]) => f x y
  | _ => false
theorem all_qv (f : T → Bool) (ts : List T) : (ts.map Yv.val).all (qv f) = ts.all f := by rw [List.all_map]; rfl
theorem sgn_dat {z : Str} (hc : PyData.canLay0 (.str z) = true) {c : Nat} (hm : c ∈ z.cps.toList) : ∃ d, (∀ h, dat 65 h (.str ⟨#[c]⟩) = some d) ∧ d.canLay0 = true ∧ d.depth = 0 := by
  refine ⟨.str ⟨#[c]⟩, fun _ => rfl, ?_, rfl⟩
  have h1 : z.cps.all (· < 0x110000) = true := hc
  have h2 : c < 0x110000 := by
    rw [Array.all_eq_true_iff_forall_mem] at h1
    have := h1 c (by simpa using hm)
    simpa using this
  show (#[c] : Array Nat).all (· < 0x110000) = true
  simp [h2]
theorem law_is_name_eq (z : Str) (h : TH) (hz : z.length ≤ 100) (hzc : PyData.canLay0 (.str z) = true) : ∃ h', Gr h h' ∧ F__law_is_name [.str z] h = .ok (.bl (nameB z)) h' := by
  have hs : z.length ≤ sizeLine := by rw [sizeLine_eq]; omega
  by_cases h1 : 1 ≤ z.length
  · by_cases h2 : z.length ≤ 10
    · obtain ⟨c, e1, e2⟩ := head_ix h1 h2 h
      have h1' : (1 : Int) ≤ z.length := by omega
      have h2' : (z.length : Int) ≤ 10 := by omega
      cases hc : inS ⟨#[c]⟩ LET with
      | false =>
        refine ⟨h, Gr.refl h, ?_⟩
        simp only [inS] at hc
        simp [F__law_is_name, b__law_is_name, runB, sSeq, sIf, SRes.of, SRes.then, mOr, mNot, mB, eVar, eChain, eC, eCall, aCons, aNil, fLen, hs, fLe, h1', h2', sRet, eBin, e1, fNotIn, fInB, hc, nameB, e2, inS]
      | true =>
        obtain ⟨h', g, e, _⟩ := nil_lc (it := iSeq (eVar 0)) (g := gName 1) (t := mB (eBin fNotIn (eVar 1) (eC (.str SGN)))) (e := eVar 1) (vs := [1]) (σ := [some (.str z), none]) (h := h) (J := fun i _ => some ((z.cps[i]?).map fun c => Yv.val (.str ⟨#[c]⟩)))
          (ys := z.cps.toList.map fun c => Yv.val (.str ⟨#[c]⟩)) (p := fun y => match y with | .val (.str c) => !inS c SGN | _ => false) (f := fun y => match y with | .val t => t | _ => .non)
          ⟨h, by simp [iSeq, eVar, itSeq], Gr.refl h⟩ (fun i h' _ => by rw [strY]) (by rw [List.length_map, Array.length_toList]; have : z.length = z.cps.size := rfl; omega)
          (fun y hy => by
            obtain ⟨c, hc, rfl⟩ := List.mem_map.mp hy
            exact sgn_dat hzc hc)
          fun y hy h' _ => by
            obtain ⟨c, _, rfl⟩ := List.mem_map.mp hy
            exact ⟨_, h', rfl, by simp [mB, eBin, eVar, wipeT, eC, fNotIn, fInB, inS], Gr.refl _, fun _ => ⟨h', rfl, Gr.refl _⟩⟩
        refine ⟨h', g, ?_⟩
        simp only [inS] at hc
        have e' : eBin fEq (eLc (iSeq (eVar 0)) (gName 1) (mB (eBin fNotIn (eVar 1) (eC (.str "abcdefghijklmnopqrstuvwxyz0123456789")))) (eVar 1) [1]) (eLst aNil) [some (.str z), none] h = .ok (.bl (signsB z SGN)) h' := by
          rw [e]
          congr 2
          unfold signsB
          rw [List.all_map]
          congr 1
          funext c
          simp
        unfold F__law_is_name b__law_is_name
        generalize eBin fEq (eLc (iSeq (eVar 0)) (gName 1) (mB (eBin fNotIn (eVar 1) (eC (.str "abcdefghijklmnopqrstuvwxyz0123456789")))) (eVar 1) [1]) (eLst aNil) = G at e' ⊢
        simp [runB, sSeq, sIf, SRes.of, SRes.then, mOr, mNot, mB, eVar, eChain, eC, eCall, aCons, aNil, fLen, hs, fLe, h1', h2', sRet, eBin, e1, fNotIn, fInB, hc, nameB, e2, inS, sNil, h1, h2, e']
    · refine ⟨h, Gr.refl h, ?_⟩
      have h1' : (1 : Int) ≤ z.length := by omega
      have h2' : ¬ (z.length : Int) ≤ 10 := by omega
      simp [F__law_is_name, b__law_is_name, runB, sSeq, sIf, SRes.of, SRes.then, mOr, mNot, mB, eVar, eChain, eC, eCall, aCons, aNil, fLen, hs, fLe, h1', h2', sRet, nameB, h2]
  · refine ⟨h, Gr.refl h, ?_⟩
    have h1' : ¬ (1 : Int) ≤ z.length := by omega
    simp [F__law_is_name, b__law_is_name, runB, sSeq, sIf, SRes.of, SRes.then, mOr, mNot, mB, eVar, eChain, eC, eCall, aCons, aNil, fLen, hs, fLe, h1', sRet, nameB, h1]
theorem named_eq {b L n : Nat} {t : T} {h : TH} (x : Gd b L h n t) : ∃ h', Gr h h' ∧ F__law_named [t] h = .ok (.bl (isNm t)) h' := by
  have e0 := inst_str x
  cases t with
  | str z =>
    have hz : z.length ≤ 100 ∧ PyData.canLay0 (.str z) = true := by
      cases n with
      | zero => exact x.elim
      | succ n => exact x
    obtain ⟨h', g, e⟩ := law_is_name_eq z h hz.1 hz.2
    refine ⟨h', g, ?_⟩
    simp [F__law_named, b__law_named, runB, sRet, SRes.of, eAnd, mB, eUn, eVar, e0, isS, eCallF, aCons, aNil, e, isNm]
  | _ =>
    refine ⟨h, Gr.refl h, ?_⟩
    simp [F__law_named, b__law_named, runB, sRet, SRes.of, eAnd, mB, eUn, eVar, e0, isS, isNm]
/-- ascending: rows of comparable things -/
theorem ascending_eq {α : Type} (f : α → T) (lt : α → α → Bool) (hf : ∀ a b h, fLt (f a) (f b) h = .ok (.bl (lt a b)) h) (l : List α) (hl : l.length ≤ 100) (h : TH) : ∃ h', Gr h h' ∧ F_is_ascending [.tup (l.map f)] h = .ok (.bl (ascB lt l)) h' := by
  have hq : ∃ q : Yv → Bool, ∀ a b, q (.parts [f a, f b]) = lt a b := by
    refine ⟨fun y => match y with
      | .parts [x, y] => (match fLt x y [] with
        | .ok (.bl k) _ => k
        | _ => false)
      | _ => false, fun a b => ?_⟩
    simp only [hf]
  obtain ⟨q, hq⟩ := hq
  have hit : ∃ h1, TL.iZip (aCons (eVar 0) (aCons (eSlice (eVar 0) (oSome (eC (.int 1))) oNone) aNil)) [some (.tup (l.map f)), none, none] h = .ok (fun i _ => some (match (l.map f)[i]?, ((l.map f).drop 1)[i]? with
      | some x, some y => some (Yv.parts [x, y])
      | _, _ => none)) h1 ∧ Gr h h1 := by
    refine ⟨h, ?_, Gr.refl h⟩
    simp only [TL.iZip, aCons, aNil, eVar, eSlice, oSome, oNone, eC, fSlice, cut1, bind_ok, List.getElem?_cons_zero]
    all_goals rfl
  obtain ⟨h', g, e⟩ := all_lc (g := TL.gTup (gsCons (TL.gName 1) (gsCons (TL.gName 2) gsNil))) (e := eBin fLt (eVar 1) (eVar 2)) (vs := [1, 2]) (ys := ((l.map f).zip ((l.map f).drop 1)).map fun p => Yv.parts [p.1, p.2]) (q := q) hit
    (fun i h' _ => congrArg some (zipY (ts := l.map f) (us := (l.map f).drop 1) i)) (by simp; omega)
    fun y hy h' _ => by
      obtain ⟨p, hp, rfl⟩ := List.mem_map.mp hy
      rw [← List.map_drop, List.zip_map] at hp
      obtain ⟨⟨a, b⟩, _, rfl⟩ := List.mem_map.mp hp
      refine ⟨_, h', rfl, ?_, Gr.refl _⟩
      show eBin fLt (eVar 1) (eVar 2) _ h' = .ok (.bl (q (.parts [f a, f b]))) h'
      rw [hq]
      exact hf a b h'
  refine ⟨h', g, ?_⟩
  have ev : (((l.map f).zip ((l.map f).drop 1)).map fun p => Yv.parts [p.1, p.2]).all q = ascB lt l := by
    rw [← List.map_drop, List.zip_map, List.map_map, List.all_map]
    unfold ascB
    congr 1
    funext ⟨a, b⟩
    exact hq a b
  rw [ev] at e
  simp only [F_is_ascending, b_is_ascending, runB, sRet, List.map_cons, List.map_nil, List.cons_append, List.nil_append, List.replicate, e, of_ok]
def tupB (f : List T → Bool) : T → Bool
  | .tup ns => f ns
  | _ => false
def namesB (ns : List T) : Bool := match strsT ns with
  | some xs => xs.all nameB && ascB ltS xs
  | none => false
theorem isNm_strs : ∀ {ns : List T}, ns.all isNm = true → ∃ xs, strsT ns = some xs ∧ ns = xs.map T.str ∧ xs.all nameB = true
  | [], _ => ⟨[], rfl, rfl, rfl⟩
  | t :: ns, h => by
    rw [List.all_cons, Bool.and_eq_true] at h
    obtain ⟨xs, e1, e2, e3⟩ := isNm_strs h.2
    cases t with
    | str z => exact ⟨z :: xs, by simp [strsT, e1], by rw [e2]; rfl, by rw [List.all_cons, e3, Bool.and_true]; exact h.1⟩
    | _ => exact absurd h.1 (by simp [isNm])
theorem strs_isNm : ∀ {ns : List T} {xs : List Str}, strsT ns = some xs → ns.all isNm = xs.all nameB := by
  intro ns xs e
  rw [strsT_of e, List.all_map]; rfl
theorem are_names_eq {b L n : Nat} {t : T} {h : TH} (x : Gd b L h n t) (hL : L ≤ 60) : ∃ h', Gr h h' ∧ F_are_names [t] h = .ok (.bl (tupB namesB t)) h' := by
  have e0 := inst_tup x
  cases t with
  | tup ns =>
    have hx : ns.length ≤ L ∧ ∃ m, ∀ t ∈ ns, Gd b L h m t := by
      cases n with
      | zero => exact x.elim
      | succ n => exact ⟨x.1, n, x.2⟩
    obtain ⟨hl, m, hx⟩ := hx
    obtain ⟨h1, g1, e1⟩ := all_lc (it := iSeq (eVar 0)) (g := TL.gName 1) (e := eCallF 1 F_is_name (aCons (eVar 1) aNil)) (vs := [1]) (σ := [some (.tup ns), none]) (h := h) (J := fun i _ => some ((ns[i]?).map Yv.val)) (ys := ns.map Yv.val) (q := qv isNm)
      ⟨h, rfl, Gr.refl h⟩ (fun i h' _ => by rw [tupY]) (by rw [List.length_map]; omega)
      fun y hy h' g => by
        obtain ⟨t, ht, rfl⟩ := List.mem_map.mp hy
        obtain ⟨h2, g2, e2⟩ := is_name_eq ((hx t ht).mono (Nat.le_refl _) (g.gw b) (Nat.le_refl _))
        exact ⟨_, h2, rfl, by simp [eCallF, aCons, aNil, eVar, wipeT, e2, qv], g2⟩
    rw [all_qv] at e1
    cases hc : ns.all isNm with
    | false =>
      rw [hc] at e1
      refine ⟨h1, g1, ?_⟩
      have hn : namesB ns = false := by
        unfold namesB
        cases es : strsT ns with
        | none => rfl
        | some xs => rw [strs_isNm es] at hc; simp [hc]
      unfold F_are_names b_are_names
      generalize eCall fAll (aCons (eLc (iSeq (eVar 0)) (TL.gName 1) mYes (eCallF 1 F_is_name (aCons (eVar 1) aNil)) [1]) aNil) = G at e1 ⊢
      simp [runB, sSeq, sIf, SRes.of, SRes.then, mNot, mB, eUn, eVar, e0, isT, sNil, e1, sRet, eC, hn, tupB]
    | true =>
      rw [hc] at e1
      obtain ⟨xs, s1, s2, s3⟩ := isNm_strs hc
      obtain ⟨h2, g2, e2⟩ := ascending_eq T.str ltS lt_strs xs (by rw [s2, List.length_map] at hl; omega) h1
      rw [← s2] at e2
      refine ⟨h2, g1.trans g2, ?_⟩
      have hn : namesB ns = ascB ltS xs := by
        unfold namesB
        rw [s1]; simp [s3]
      unfold F_are_names b_are_names
      generalize eCall fAll (aCons (eLc (iSeq (eVar 0)) (TL.gName 1) mYes (eCallF 1 F_is_name (aCons (eVar 1) aNil)) [1]) aNil) = G at e1 ⊢
      simp [runB, sSeq, sIf, SRes.of, SRes.then, mNot, mB, eUn, eVar, e0, isT, sNil, e1, sRet, eC, hn, eCallF, aCons, aNil, e2, tupB]
  | _ =>
    refine ⟨h, Gr.refl h, ?_⟩
    simp [F_are_names, b_are_names, runB, sSeq, sIf, SRes.of, SRes.then, mNot, mB, eUn, eVar, e0, isT, sRet, eC, tupB]
def wideB (k : Nat) : T → Bool
  | .tup ts => decide (ts.length = k)
  | _ => false
theorem tuple_of_eq {b L n : Nat} {t : T} {h : TH} (x : Gd b L h n t) (k : Nat) : F_is_tuple_of [t, .int k] h = .ok (.bl (wideB k t)) h := by
  have e0 := inst_tup x
  cases t with
  | tup ts =>
    simp [F_is_tuple_of, b_is_tuple_of, runB, sRet, SRes.of, eAnd, mB, eUn, eVar, e0, isT, eBin, eCall, aCons, aNil, fLen, itemsOf, fEq, fEqB, wideB]
    by_cases hk : ts.length = k
    · simp [hk]
    · have : ¬ ((ts.length : Int) = (k : Int)) := by omega
      simp [hk, this]
  | _ => simp [F_is_tuple_of, b_is_tuple_of, runB, sRet, SRes.of, eAnd, mB, eUn, eVar, e0, isT, wideB]
def nmPair : T → Bool
  | .tup [a, b] => isNm a && isNm b
  | _ => false
theorem ix_tup0 (a : T) (l : List T) (h : TH) : fIx (.tup (a :: l)) (.int 0) h = .ok a h := by
  have : atI (a :: l) 0 = some a := by
    unfold atI ixN
    rw [if_pos (by decide), if_pos (by first | (simp; done) | (simp; omega))]; rfl
  simp [fIx, itemsOf, this]
theorem ix_tup1 (a c : T) (l : List T) (h : TH) : fIx (.tup (a :: c :: l)) (.int 1) h = .ok c h := by
  have : atI (a :: c :: l) 1 = some c := by
    unfold atI ixN
    rw [if_pos (by decide), if_pos (by first | (simp; done) | (simp; omega))]; rfl
  simp [fIx, itemsOf, this]
theorem ix_tup2 (a c d : T) (l : List T) (h : TH) : fIx (.tup (a :: c :: d :: l)) (.int 2) h = .ok d h := by
  have : atI (a :: c :: d :: l) 2 = some d := by
    unfold atI ixN
    rw [if_pos (by decide), if_pos (by first | (simp; done) | (simp; omega))]; rfl
  simp [fIx, itemsOf, this]
theorem name_pair_eq {b L n : Nat} {t : T} {h : TH} (x : Gd b L h n t) : ∃ h', Gr h h' ∧ F_is_name_pair [t] h = .ok (.bl (nmPair t)) h' := by
  have e0 : F_is_tuple_of [t, .int 2] h = .ok (.bl (wideB 2 t)) h := tuple_of_eq x 2
  have no : wideB 2 t = false → ∃ h', Gr h h' ∧ F_is_name_pair [t] h = .ok (.bl (nmPair t)) h' := by
    intro hw
    have hn : nmPair t = false := by
      unfold nmPair
      split
      · simp [wideB] at hw
      · rfl
    refine ⟨h, Gr.refl h, ?_⟩
    simp [F_is_name_pair, b_is_name_pair, runB, sRet, SRes.of, eAnd, mB, eCallF, aCons, aNil, eVar, eC, e0, hw, hn]
  cases hw : wideB 2 t with
  | false => exact no hw
  | true =>
    cases t with
    | tup ts =>
      cases ts with
      | nil => simp [wideB] at hw
      | cons a ts =>
      cases ts with
      | nil => simp [wideB] at hw
      | cons c ts =>
      cases ts with
      | cons d ts => simp [wideB] at hw
      | nil =>
        have hx : ∃ m, Gd b L h m a ∧ Gd b L h m c := by
          cases n with
          | zero => exact x.elim
          | succ n => exact ⟨n, x.2 a (by simp), x.2 c (by simp)⟩
        obtain ⟨m, xa, xc⟩ := hx
        obtain ⟨h1, g1, e1⟩ := is_name_eq xa
        have i0 := ix_tup0 a [c] h
        cases ha : isNm a with
        | false =>
          refine ⟨h1, g1, ?_⟩
          rw [ha] at e1
          simp [F_is_name_pair, b_is_name_pair, runB, sRet, SRes.of, eAnd, mB, eCallF, aCons, aNil, eVar, eC, e0, hw, eBin, i0, e1, nmPair, ha]
        | true =>
          rw [ha] at e1
          obtain ⟨h2, g2, e2⟩ := is_name_eq (xc.mono (Nat.le_refl _) (g1.gw b) (Nat.le_refl _))
          have i1 := ix_tup1 a c [] h1
          refine ⟨h2, g1.trans g2, ?_⟩
          simp [F_is_name_pair, b_is_name_pair, runB, sRet, SRes.of, eAnd, mB, eCallF, aCons, aNil, eVar, eC, e0, hw, eBin, i0, e1, nmPair, ha, i1, e2]
    | _ => simp [wideB] at hw
def pairB (p : Str × Str) : Bool := nameB p.1 && nameB p.2
def pairsB (ps : List T) : Bool := match pairsT ps with
  | some qs => qs.all pairB && ascB ltP qs
  | none => false
theorem nmPair_pairs : ∀ {ps : List T}, ps.all nmPair = true → ∃ qs, pairsT ps = some qs ∧ ps = qs.map ofPair ∧ qs.all pairB = true
  | [], _ => ⟨[], rfl, rfl, rfl⟩
  | t :: ps, h => by
    rw [List.all_cons, Bool.and_eq_true] at h
    obtain ⟨qs, e1, e2, e3⟩ := nmPair_pairs h.2
    have ht := h.1
    unfold nmPair at ht
    split at ht
    · rename_i a c
      rw [Bool.and_eq_true] at ht
      cases a with
      | str x =>
        cases c with
        | str y => exact ⟨(x, y) :: qs, by simp [pairsT, pairT, e1], by rw [e2]; rfl, by rw [List.all_cons, e3, Bool.and_true]; unfold pairB; rw [Bool.and_eq_true]; exact ht⟩
        | _ => exact absurd ht.2 (by simp [isNm])
      | _ => exact absurd ht.1 (by simp [isNm])
    · cases ht
theorem pairs_nmPair {ps : List T} {qs : List (Str × Str)} (e : pairsT ps = some qs) : ps.all nmPair = qs.all pairB := by
  rw [pairsT_of e, List.all_map]; rfl
theorem are_pairs_eq {b L n : Nat} {t : T} {h : TH} (x : Gd b L h n t) (hL : L ≤ 60) : ∃ h', Gr h h' ∧ F_are_pairs [t] h = .ok (.bl (tupB pairsB t)) h' := by
  have e0 := inst_tup x
  cases t with
  | tup ns =>
    have hx : ns.length ≤ L ∧ ∃ m, ∀ t ∈ ns, Gd b L h m t := by
      cases n with
      | zero => exact x.elim
      | succ n => exact ⟨x.1, n, x.2⟩
    obtain ⟨hl, m, hx⟩ := hx
    obtain ⟨h1, g1, e1⟩ := all_lc (it := iSeq (eVar 0)) (g := TL.gName 1) (e := eCallF 1 F_is_name_pair (aCons (eVar 1) aNil)) (vs := [1]) (σ := [some (.tup ns), none]) (h := h) (J := fun i _ => some ((ns[i]?).map Yv.val)) (ys := ns.map Yv.val) (q := qv nmPair)
      ⟨h, rfl, Gr.refl h⟩ (fun i h' _ => by rw [tupY]) (by rw [List.length_map]; omega)
      fun y hy h' g => by
        obtain ⟨t, ht, rfl⟩ := List.mem_map.mp hy
        obtain ⟨h2, g2, e2⟩ := name_pair_eq ((hx t ht).mono (Nat.le_refl _) (g.gw b) (Nat.le_refl _))
        exact ⟨_, h2, rfl, by simp [eCallF, aCons, aNil, eVar, wipeT, e2, qv], g2⟩
    rw [all_qv] at e1
    cases hc : ns.all nmPair with
    | false =>
      rw [hc] at e1
      refine ⟨h1, g1, ?_⟩
      have hn : pairsB ns = false := by
        unfold pairsB
        cases es : pairsT ns with
        | none => rfl
        | some xs => rw [pairs_nmPair es] at hc; simp [hc]
      unfold F_are_pairs b_are_pairs
      generalize eCall fAll (aCons (eLc (iSeq (eVar 0)) (TL.gName 1) mYes (eCallF 1 F_is_name_pair (aCons (eVar 1) aNil)) [1]) aNil) = G at e1 ⊢
      simp [runB, sSeq, sIf, SRes.of, SRes.then, mNot, mB, eUn, eVar, e0, isT, sNil, e1, sRet, eC, hn, tupB]
    | true =>
      rw [hc] at e1
      obtain ⟨xs, s1, s2, s3⟩ := nmPair_pairs hc
      obtain ⟨h2, g2, e2⟩ := ascending_eq ofPair ltP lt_pairs xs (by rw [s2, List.length_map] at hl; omega) h1
      rw [← s2] at e2
      refine ⟨h2, g1.trans g2, ?_⟩
      have hn : pairsB ns = ascB ltP xs := by
        unfold pairsB
        rw [s1]; simp [s3]
      unfold F_are_pairs b_are_pairs
      generalize eCall fAll (aCons (eLc (iSeq (eVar 0)) (TL.gName 1) mYes (eCallF 1 F_is_name_pair (aCons (eVar 1) aNil)) [1]) aNil) = G at e1 ⊢
      simp [runB, sSeq, sIf, SRes.of, SRes.then, mNot, mB, eUn, eVar, e0, isT, sNil, e1, sRet, eC, hn, eCallF, aCons, aNil, e2, tupB]
  | _ =>
    refine ⟨h, Gr.refl h, ?_⟩
    simp [F_are_pairs, b_are_pairs, runB, sSeq, sIf, SRes.of, SRes.then, mNot, mB, eUn, eVar, e0, isT, sRet, eC, tupB]
/-- the strings of a good row -/
theorem gd_strs {b L n : Nat} {ns : List T} {xs : List Str} {h : TH} (x : Gd b L h n (.tup ns)) (e : ns = xs.map T.str) : ∀ z ∈ xs, okS z := by
  cases n with
  | zero => exact x.elim
  | succ n =>
    intro z hz
    have := x.2 (.str z) (by rw [e]; exact List.mem_map.mpr ⟨z, hz, rfl⟩)
    cases n with
    | zero => exact this.elim
    | succ n => exact this.2
theorem gd_pairs {b L n : Nat} {ps : List T} {qs : List (Str × Str)} {h : TH} (x : Gd b L h n (.tup ps)) (e : ps = qs.map ofPair) : ∀ q ∈ qs, okS q.1 ∧ okS q.2 := by
  cases n with
  | zero => exact x.elim
  | succ n =>
    intro q hq
    have h1 := x.2 (ofPair q) (by rw [e]; exact List.mem_map.mpr ⟨q, hq, rfl⟩)
    cases n with
    | zero => exact h1.elim
    | succ n =>
      have a := h1.2 (.str q.1) (by simp)
      have c := h1.2 (.str q.2) (by simp)
      cases n with
      | zero => exact a.elim
      | succ n => exact ⟨a.2, c.2⟩
def tieB (xs : List Str) (p : Str × Str) : Bool := ltS p.1 p.2 && (decide (p.1 ∈ xs) && decide (p.2 ∈ xs))
def netB : T → Bool
  | .tup [a, .tup ns, .tup ps] => eqS "net" a && (namesB ns && (decide (ns.length ≤ 40) && (pairsB ps && (match strsT ns, pairsT ps with
    | some xs, some qs => qs.all (tieB xs)
    | _, _ => false))))
  | _ => false
theorem net_can : PyData.canLay0 (.str ("net" : Str)) = true := by decide +kernel
theorem is_net_eq {b L n : Nat} {t : T} {h : TH} (x : Gd b L h n t) (hn : n ≤ 60) (hL : L ≤ 60) : ∃ h', Gr h h' ∧ F_is_net [t] h = .ok (.bl (netB t)) h' := by
  have e0 : F_is_tuple_of [t, .int 3] h = .ok (.bl (wideB 3 t)) h := tuple_of_eq x 3
  cases hw : wideB 3 t with
  | false =>
    have hn : netB t = false := by
      unfold netB
      split
      · simp [wideB] at hw
      · rfl
    refine ⟨h, Gr.refl h, ?_⟩
    simp [F_is_net, b_is_net, runB, sSeq, sIf, sRet, SRes.of, SRes.then, mOr, mNot, mB, eCallF, aCons, aNil, eVar, eC, e0, hw, hn]
  | true =>
    cases t with
    | tup ts =>
      cases ts with
      | nil => simp [wideB] at hw
      | cons a ts =>
      cases ts with
      | nil => simp [wideB] at hw
      | cons c ts =>
      cases ts with
      | nil => simp [wideB] at hw
      | cons d ts =>
      cases ts with
      | cons _ ts => simp [wideB] at hw
      | nil =>
        have hx : ∃ m, m ≤ 60 ∧ Gd b L h m a ∧ Gd b L h m c ∧ Gd b L h m d := by
          cases n with
          | zero => exact x.elim
          | succ n => exact ⟨n, by omega, x.2 a (by simp), x.2 c (by simp), x.2 d (by simp)⟩
        obtain ⟨m, hm, xa, xc, xd⟩ := hx
        have i0 := ix_tup0 a [c, d] h
        have ea := eq_str "net" net_can xa hm
        cases ha : eqS "net" a with
        | false =>
          rw [ha] at ea
          have hn : netB (.tup [a, c, d]) = false := by
            unfold netB
            split
            · rename_i heq
              simp only [T.tup.injEq, List.cons.injEq, and_true] at heq
              rw [← heq.1, ha]; rfl
            · rfl
          refine ⟨h, Gr.refl h, ?_⟩
          simp [F_is_net, b_is_net, runB, sSeq, sIf, sRet, SRes.of, SRes.then, mOr, mNot, mB, eCallF, aCons, aNil, eVar, eC, e0, hw, hn, eBin, i0, fNe, ea]
        | true =>
          rw [ha] at ea
          have i1 := fun h => ix_tup1 a c [d] h
          have i2 := fun h => ix_tup2 a c d [] h
          obtain ⟨h1, g1, e1⟩ := are_names_eq xc hL
          cases hc : tupB namesB c with
          | false =>
            rw [hc] at e1
            have hn : netB (.tup [a, c, d]) = false := by
              unfold netB
              split
              · rename_i heq
                simp only [T.tup.injEq, List.cons.injEq, and_true] at heq
                rw [heq.2.1] at hc
                simp only [tupB] at hc
                rw [hc]; simp
              · rfl
            refine ⟨h1, g1, ?_⟩
            simp [F_is_net, b_is_net, runB, sSeq, sIf, sRet, SRes.of, SRes.then, mOr, mNot, mB, eCallF, aCons, aNil, eVar, eC, e0, hw, hn, eBin, i0, fNe, ea, sNil, sSet, i1, e1]
          | true =>
            rw [hc] at e1
            cases c with
            | tup ns =>
              simp only [tupB] at hc
              obtain ⟨xs, s1⟩ : ∃ xs, strsT ns = some xs := by
                unfold namesB at hc
                cases es : strsT ns with
                | none => rw [es] at hc; cases hc
                | some xs => exact ⟨xs, rfl⟩
              have s2 := strsT_of s1
              by_cases h40 : ns.length ≤ 40
              · have h40' : ¬ (40 : Int) < ns.length := by omega
                obtain ⟨h2, g2, e2⟩ := are_pairs_eq (xd.mono (Nat.le_refl _) (g1.gw b) (Nat.le_refl _)) hL
                cases hd : tupB pairsB d with
                | false =>
                  rw [hd] at e2
                  have hn : netB (.tup [a, .tup ns, d]) = false := by
                    unfold netB
                    split
                    · rename_i heq
                      simp only [T.tup.injEq, List.cons.injEq, and_true] at heq
                      rw [heq.2.2] at hd
                      simp only [tupB] at hd
                      rw [hd]; simp
                    · rfl
                  refine ⟨h2, g1.trans g2, ?_⟩
                  simp [F_is_net, b_is_net, runB, sSeq, sIf, sRet, SRes.of, SRes.then, mOr, mNot, mB, eCallF, aCons, aNil, eVar, eC, e0, hw, hn, eBin, i0, fNe, ea, sNil, sSet, i1, e1, eCall, fLen, itemsOf, fGt, h40', i2, e2]
                | true =>
                  rw [hd] at e2
                  cases d with
                  | tup ps =>
                    simp only [tupB] at hd
                    obtain ⟨qs, p1⟩ : ∃ qs, pairsT ps = some qs := by
                      unfold pairsB at hd
                      cases es : pairsT ps with
                      | none => rw [es] at hd; cases hd
                      | some qs => exact ⟨qs, rfl⟩
                    have p2 := pairsT_of p1
                    have okx := gd_strs xc s2
                    have okq := gd_pairs xd p2
                    have lp : ps.length ≤ 60 := by
                      cases m with
                      | zero => exact xd.elim
                      | succ m => exact Nat.le_trans xd.1 hL
                    obtain ⟨h3, g3, e3⟩ := all_lc (it := iSeq (eBin fIx (eVar 0) (eC (.int 2)))) (g := TL.gTup (gsCons (TL.gName 2) (gsCons (TL.gName 3) gsNil))) (e := eAnd (eBin fLt (eVar 2) (eVar 3)) (eAnd (eBin fIn (eVar 2) (eVar 1)) (eBin fIn (eVar 3) (eVar 1)))) (vs := [2, 3])
                      (σ := [some (.tup [a, .tup ns, .tup ps]), some (.tup ns), none, none]) (h := h2) (J := fun i _ => some ((ps[i]?).map Yv.val)) (ys := ps.map Yv.val) (q := fun y => match y with | .val (.tup [.str u, .str v]) => tieB xs (u, v) | _ => false)
                      ⟨h2, by simp only [iSeq, eBin, eVar, eC, List.getElem?_cons_zero, bind_ok, i2, itSeq], Gr.refl h2⟩ (fun i h' _ => by rw [tupY]) (by rw [List.length_map]; omega)
                      fun y hy h' g => by
                        obtain ⟨t, ht, rfl⟩ := List.mem_map.mp hy
                        rw [p2] at ht
                        obtain ⟨q, hq, rfl⟩ := List.mem_map.mp ht
                        refine ⟨_, h', rfl, ?_, Gr.refl _⟩
                        have f1 : fInB (.str q.1) (.tup ns) h' = .ok (decide (q.1 ∈ xs)) h' := by rw [s2]; exact in_strs (okq q hq).1 okx
                        have f2 : fInB (.str q.2) (.tup ns) h' = .ok (decide (q.2 ∈ xs)) h' := by rw [s2]; exact in_strs (okq q hq).2 okx
                        by_cases l1 : ltS q.1 q.2 = true
                        · by_cases l2 : q.1 ∈ xs
                          · simp [wipeT, eAnd, mB, eBin, eVar, lt_strs, fIn, f1, f2, tieB, l1, l2]
                          · simp [wipeT, eAnd, mB, eBin, eVar, lt_strs, fIn, f1, f2, tieB, l1, l2]
                        · simp [wipeT, eAnd, mB, eBin, eVar, lt_strs, fIn, f1, f2, tieB, l1]
                    refine ⟨h3, (g1.trans g2).trans g3, ?_⟩
                    have hn : netB (.tup [a, .tup ns, .tup ps]) = qs.all (tieB xs) := by
                      unfold netB
                      simp only [ha, hc, h40, hd, s1, p1, decide_true, Bool.true_and]
                    have ev : ((ps.map Yv.val).all fun y => match y with | .val (.tup [.str u, .str v]) => tieB xs (u, v) | _ => false) = qs.all (tieB xs) := by
                      rw [p2, List.map_map, List.all_map]; rfl
                    rw [ev] at e3
                    unfold F_is_net b_is_net
                    generalize eCall fAll (aCons (eLc (iSeq (eBin fIx (eVar 0) (eC (.int 2)))) (TL.gTup (gsCons (TL.gName 2) (gsCons (TL.gName 3) gsNil))) mYes (eAnd (eBin fLt (eVar 2) (eVar 3)) (eAnd (eBin fIn (eVar 2) (eVar 1)) (eBin fIn (eVar 3) (eVar 1)))) [2, 3]) aNil) = G at e3 ⊢
                    simp [runB, sSeq, sIf, sRet, SRes.of, SRes.then, mOr, mNot, mB, eCallF, aCons, aNil, eVar, eC, e0, hw, hn, eBin, i0, fNe, ea, sNil, sSet, i1, e1, eCall, fLen, itemsOf, fGt, h40', i2, e2, e3]
                  | _ => cases hd
              · have h40' : (40 : Int) < ns.length := by omega
                have hn : netB (.tup [a, .tup ns, d]) = false := by
                  unfold netB
                  split
                  · rename_i heq
                    simp only [T.tup.injEq, List.cons.injEq, and_true] at heq
                    rw [← heq.2.1]
                    simp [h40]
                  · rfl
                refine ⟨h1, g1, ?_⟩
                simp [F_is_net, b_is_net, runB, sSeq, sIf, sRet, SRes.of, SRes.then, mOr, mNot, mB, eCallF, aCons, aNil, eVar, eC, e0, hw, hn, eBin, i0, fNe, ea, sNil, sSet, i1, e1, eCall, fLen, itemsOf, fGt, h40']
            | _ => cases hc
    | _ => simp [wideB] at hw
/-! ### the law's own word -/
def dB1 : ME := eBin fNe (eLc (iSeq (eBin fIx (eVar 0) (eC (.int 1)))) (TL.gName 1) (mNot (mB (eCallF 1 F__law_named (aCons (eVar 1) (aNil))))) (eC (.int 1)) [1]) (eLst (aNil))
def dB2 : ME := eBin fNe (eCall fList (aCons (eBin fIx (eVar 0) (eC (.int 1))) (aNil))) (eUn fSortSet (eBin fIx (eVar 0) (eC (.int 1))))
def dC : ME := eBin fNe (eLc (iSeq (eBin fIx (eVar 0) (eC (.int 2)))) (TL.gName 2) (mOr (mNot (mB (eUn (fIsInst .tup) (eVar 2)))) (mOr (mB (eBin fNe (eCall fLen (aCons (eVar 2) (aNil))) (eC (.int 2)))) (mOr (mNot (mB (eUn (fIsInst .str) (eBin fIx (eVar 2) (eC (.int 0)))))) (mNot (mB (eUn (fIsInst .str) (eBin fIx (eVar 2) (eC (.int 1))))))))) (eC (.int 1)) [2]) (eLst (aNil))
def dD1 : ME := eBin fEq (eLc (iSeq (eBin fIx (eVar 0) (eC (.int 2)))) (TL.gTup (gsCons (TL.gName 3) (gsCons (TL.gName 4) (gsNil)))) (mOr (mB (eBin fNotIn (eVar 3) (eBin fIx (eVar 0) (eC (.int 1))))) (mOr (mB (eBin fNotIn (eVar 4) (eBin fIx (eVar 0) (eC (.int 1))))) (mB (eBin fGe (eVar 3) (eVar 4))))) (eC (.int 1)) [3, 4]) (eLst (aNil))
def dD2 : ME := eBin fEq (eCall fList (aCons (eBin fIx (eVar 0) (eC (.int 2))) (aNil))) (eUn fSortSet (eBin fIx (eVar 0) (eC (.int 2))))
def mA : MB := mOr (mNot (mB (eUn (fIsInst .tup) (eVar 0)))) (mOr (mB (eBin fNe (eCall fLen (aCons (eVar 0) (aNil))) (eC (.int 3)))) (mOr (mNot (mB (eCallF 2 F__law_like (aCons (eBin fIx (eVar 0) (eC (.int 0))) (aCons (eC (.str "net")) (aNil)))))) (mOr (mNot (mB (eUn (fIsInst .tup) (eBin fIx (eVar 0) (eC (.int 1)))))) (mNot (mB (eUn (fIsInst .tup) (eBin fIx (eVar 0) (eC (.int 2)))))))))
theorem right_parts : b__law_net_right = sSeq (sIf mA (sRet (eC (.bl false))) sNil) (sSeq (sIf (mOr (mB dB1) (mOr (mB dB2) (mB (eBin fGt (eCall fLen (aCons (eBin fIx (eVar 0) (eC (.int 1))) (aNil))) (eC (.int 40)))))) (sRet (eC (.bl false))) sNil) (sSeq (sIf (mB dC) (sRet (eC (.bl false))) sNil) (sRet (eAnd dD1 dD2)))) := rfl
section
variable {b L n : Nat} {a : T} {ns ps : List T} {h : TH}
abbrev thing3 (a : T) (ns ps : List T) : Sl := [some (.tup [a, .tup ns, .tup ps]), none, none, none, none]
theorem one_dat : ∃ d : PyData, (∀ h, dat 65 h (.int 1) = some d) ∧ d.canLay0 = true ∧ d.depth = 0 := ⟨.int 1, fun _ => rfl, rfl, rfl⟩
theorem dB1_eq (x : Gd b L h n (.tup ns)) (hL : L ≤ 60) : ∃ h', Gr h h' ∧ dB1 (thing3 a ns ps) h = .ok (.bl (!ns.all isNm)) h' := by
  have hx : ns.length ≤ L ∧ ∃ m, ∀ t ∈ ns, Gd b L h m t := by
    cases n with
    | zero => exact x.elim
    | succ n => exact ⟨x.1, n, x.2⟩
  obtain ⟨hl, m, hx⟩ := hx
  obtain ⟨h', g, _, e⟩ := nil_lc (it := iSeq (eBin fIx (eVar 0) (eC (.int 1)))) (g := TL.gName 1) (t := mNot (mB (eCallF 1 F__law_named (aCons (eVar 1) (aNil))))) (e := eC (.int 1)) (vs := [1]) (σ := thing3 a ns ps) (h := h) (J := fun i _ => some ((ns[i]?).map Yv.val)) (ys := ns.map Yv.val) (p := fun y => !qv isNm y) (f := fun _ => .int 1)
    ⟨h, by simp only [iSeq, eBin, eVar, eC, List.getElem?_cons_zero, bind_ok, ix_tup1, itSeq], Gr.refl h⟩ (fun i h' _ => by rw [tupY]) (by rw [List.length_map]; omega) (fun _ _ => one_dat)
    fun y hy h' g => by
      obtain ⟨t, ht, rfl⟩ := List.mem_map.mp hy
      obtain ⟨h2, g2, e2⟩ := named_eq ((hx t ht).mono (Nat.le_refl _) (g.gw b) (Nat.le_refl _))
      exact ⟨_, h2, rfl, by simp [mNot, mB, eCallF, aCons, aNil, eVar, wipeT, e2, qv], g2, fun _ => ⟨h2, rfl, Gr.refl _⟩⟩
  refine ⟨h', g, ?_⟩
  have ev : ((ns.map Yv.val).all fun y => !!qv isNm y) = ns.all isNm := by
    rw [← all_qv]; congr 1; funext y; simp
  rw [ev] at e
  exact e
theorem sort_strs {xs : List Str} (hl : xs.length < 64) (h : TH) : fSortSet (.tup (xs.map T.str)) h = .ok (.ref h.length) (h ++ [.lst (((uniq xs).mergeSort leS).map T.str)]) := by
  have : strsT (xs.map T.str) = some xs := by
    clear hl
    induction xs with
    | nil => rfl
    | cons x xs ih => simp [strsT, ih]
  simp [fSortSet, itemsOf, hl, this]
theorem sort_pairs {qs : List (Str × Str)} (hl : qs.length < 64) (h : TH) : ∃ r : List (Str × Str), r = (uniq qs).mergeSort leP ∧ fSortSet (.tup (qs.map ofPair)) h = .ok (.ref h.length) (h ++ [.lst (r.map ofPair)]) := by
  have e1 : pairsT (qs.map ofPair) = some qs := by
    clear hl
    induction qs with
    | nil => rfl
    | cons x xs ih => simp [pairsT, pairT, ih]
  refine ⟨_, rfl, ?_⟩
  cases qs with
  | nil => simp [fSortSet, itemsOf, strsT, uniq]
  | cons q qs =>
    have e2 : strsT ((q :: qs).map ofPair) = none := rfl
    have e3 : intsOf ((q :: qs).map ofPair) = none := rfl
    have hl' : ((q :: qs).map ofPair).length < 64 := by rw [List.length_map]; exact hl
    simp only [fSortSet, itemsOf, hl', if_true, e2, e3, e1]
theorem dB2_eq {xs : List Str} (e : ns = xs.map T.str) (ok : ∀ z ∈ xs, okS z) (hl : xs.length < 64) : ∃ h', Gr h h' ∧ dB2 (thing3 a ns ps) h = .ok (.bl (!ascB ltS xs)) h' := by
  subst e
  refine ⟨h ++ [.lst (xs.map T.str)] ++ [.lst (((uniq xs).mergeSort leS).map T.str)], (Gr.app h _).trans (Gr.app _ _), ?_⟩
  have k1 : (h ++ [TO.lst (xs.map T.str)] ++ [.lst (((uniq xs).mergeSort leS).map T.str)])[h.length]? = some (.lst (xs.map T.str)) := by simp
  have k2 := get_last (h ++ [TO.lst (xs.map T.str)]) (.lst (((uniq xs).mergeSort leS).map T.str))
  have ok2 : ∀ z ∈ (uniq xs).mergeSort leS, okS z := fun z hz => ok z (mem_uniq.mp ((List.mergeSort_perm _ _).mem_iff.mp hz))
  have fe := eq_strs k1 k2 ok ok2
  have ea : ascB ltS xs = decide (xs = (uniq xs).mergeSort leS) := by
    rw [← asc_sorted lin_S]
    congr 1
    funext p q
    exact ltS_not p q
  simp only [dB2, eBin, eCall, aCons, aNil, eVar, eC, List.getElem?_cons_zero, bind_ok, ix_tup1, fList, itemsOf, eUn, sort_strs hl, fNe, fe, ea]
theorem dD2_eq {qs : List (Str × Str)} (e : ps = qs.map ofPair) (ok : ∀ z ∈ qs, okS z.1 ∧ okS z.2) (hl : qs.length < 64) : ∃ h', Gr h h' ∧ dD2 (thing3 a ns ps) h = .ok (.bl (ascB ltP qs)) h' := by
  subst e
  obtain ⟨r, er, es⟩ := sort_pairs hl (h ++ [.lst (qs.map ofPair)])
  refine ⟨h ++ [.lst (qs.map ofPair)] ++ [.lst (r.map ofPair)], (Gr.app h _).trans (Gr.app _ _), ?_⟩
  have k1 : (h ++ [TO.lst (qs.map ofPair)] ++ [.lst (r.map ofPair)])[h.length]? = some (.lst (qs.map ofPair)) := by simp
  have k2 := get_last (h ++ [TO.lst (qs.map ofPair)]) (.lst (r.map ofPair))
  have ok2 : ∀ z ∈ r, okS z.1 ∧ okS z.2 := fun z hz => ok z (by rw [er] at hz; exact mem_uniq.mp ((List.mergeSort_perm _ _).mem_iff.mp hz))
  have fe := eq_pairs k1 k2 ok ok2
  have ea : ascB ltP qs = decide (qs = r) := by rw [er, ← asc_sorted lin_P]; rfl
  simp only [dD2, eBin, eCall, aCons, aNil, eVar, eC, List.getElem?_cons_zero, bind_ok, ix_tup2, fList, itemsOf, eUn, es, fEq, fe, ea]
def ss : T → Bool
  | .tup [u, v] => isS u && isS v
  | _ => false
theorem dC_eq (x : Gd b L h n (.tup ps)) (hL : L ≤ 60) : ∃ h', Gr h h' ∧ dC (thing3 a ns ps) h = .ok (.bl (!ps.all ss)) h' := by
  have hx : ps.length ≤ L ∧ ∃ m, ∀ t ∈ ps, Gd b L h m t := by
    cases n with
    | zero => exact x.elim
    | succ n => exact ⟨x.1, n, x.2⟩
  obtain ⟨hl, m, hx⟩ := hx
  obtain ⟨h', g, _, e⟩ := nil_lc (it := iSeq (eBin fIx (eVar 0) (eC (.int 2)))) (g := TL.gName 2) (t := mOr (mNot (mB (eUn (fIsInst .tup) (eVar 2)))) (mOr (mB (eBin fNe (eCall fLen (aCons (eVar 2) (aNil))) (eC (.int 2)))) (mOr (mNot (mB (eUn (fIsInst .str) (eBin fIx (eVar 2) (eC (.int 0)))))) (mNot (mB (eUn (fIsInst .str) (eBin fIx (eVar 2) (eC (.int 1)))))))))
    (e := eC (.int 1)) (vs := [2]) (σ := thing3 a ns ps) (h := h) (J := fun i _ => some ((ps[i]?).map Yv.val)) (ys := ps.map Yv.val) (p := fun y => !qv ss y) (f := fun _ => .int 1)
    ⟨h, by simp only [iSeq, eBin, eVar, eC, List.getElem?_cons_zero, bind_ok, ix_tup2, itSeq], Gr.refl h⟩ (fun i h' _ => by rw [tupY]) (by rw [List.length_map]; omega) (fun _ _ => one_dat)
    fun y hy h' g => by
      obtain ⟨t, ht, rfl⟩ := List.mem_map.mp hy
      have xt := (hx t ht).mono (Nat.le_refl _) (g.gw b) (Nat.le_refl _)
      have e0 := inst_tup xt
      refine ⟨_, h', rfl, ?_, Gr.refl _, fun _ => ⟨h', rfl, Gr.refl _⟩⟩
      cases t with
      | tup us =>
        by_cases hw : us.length = 2
        · match us, hw with
          | [u, v], _ =>
            have hm : ∃ m, Gd b L h' m u ∧ Gd b L h' m v := by
              cases m with
              | zero => exact xt.elim
              | succ m => exact ⟨m, xt.2 u (by simp), xt.2 v (by simp)⟩
            obtain ⟨m', xu, xv⟩ := hm
            have eu := inst_str xu
            have ev := inst_str xv
            cases hu : isS u <;> cases hv : isS v <;> simp [mOr, mNot, mB, eUn, eVar, wipeT, e0, isT, eBin, eCall, aCons, aNil, fLen, itemsOf, eC, fNe, fEqB, ix_tup0, ix_tup1, eu, ev, qv, ss, hu, hv]
        · have hn : ss (.tup us) = false := by
            unfold ss
            split
            · rename_i heq
              simp only [T.tup.injEq] at heq
              rw [heq] at hw; exact absurd rfl hw
            · rfl
          have hw' : ¬ ((us.length : Int) = 2) := by omega
          simp [mOr, mNot, mB, eUn, eVar, wipeT, e0, isT, eBin, eCall, aCons, aNil, fLen, itemsOf, eC, fNe, fEqB, qv, hn, hw']
      | _ => simp [mOr, mNot, mB, eUn, eVar, wipeT, e0, isT, qv, ss]
  refine ⟨h', g, ?_⟩
  have ev : ((ps.map Yv.val).all fun y => !!qv ss y) = ps.all ss := by
    rw [← all_qv]; congr 1; funext y; simp
  rw [ev] at e
  exact e
theorem dD1_eq {xs : List Str} {qs : List (Str × Str)} (e1 : ns = xs.map T.str) (e2 : ps = qs.map ofPair) (okx : ∀ z ∈ xs, okS z) (okq : ∀ z ∈ qs, okS z.1 ∧ okS z.2) (hl : qs.length ≤ 60) : ∃ h', Gr h h' ∧ dD1 (thing3 a ns ps) h = .ok (.bl (qs.all (tieB xs))) h' := by
  subst e1 e2
  obtain ⟨h', g, e, _⟩ := nil_lc (it := iSeq (eBin fIx (eVar 0) (eC (.int 2)))) (g := TL.gTup (gsCons (TL.gName 3) (gsCons (TL.gName 4) (gsNil)))) (t := mOr (mB (eBin fNotIn (eVar 3) (eBin fIx (eVar 0) (eC (.int 1))))) (mOr (mB (eBin fNotIn (eVar 4) (eBin fIx (eVar 0) (eC (.int 1))))) (mB (eBin fGe (eVar 3) (eVar 4)))))
    (e := eC (.int 1)) (vs := [3, 4]) (σ := thing3 a (xs.map T.str) (qs.map ofPair)) (h := h) (J := fun i _ => some (((qs.map ofPair)[i]?).map Yv.val)) (ys := (qs.map ofPair).map Yv.val) (p := fun y => match y with | .val (.tup [.str u, .str v]) => !tieB xs (u, v) | _ => false) (f := fun _ => .int 1)
    ⟨h, by simp only [iSeq, eBin, eVar, eC, List.getElem?_cons_zero, bind_ok, ix_tup2, itSeq], Gr.refl h⟩ (fun i h' _ => by rw [tupY]) (by rw [List.length_map, List.length_map]; omega) (fun _ _ => one_dat)
    fun y hy h' g => by
      obtain ⟨t, ht, rfl⟩ := List.mem_map.mp hy
      obtain ⟨q, hq, rfl⟩ := List.mem_map.mp ht
      have f1 : fInB (.str q.1) (.tup (xs.map T.str)) h' = .ok (decide (q.1 ∈ xs)) h' := in_strs (okq q hq).1 okx
      have f2 : fInB (.str q.2) (.tup (xs.map T.str)) h' = .ok (decide (q.2 ∈ xs)) h' := in_strs (okq q hq).2 okx
      have f3 : fGe (.str q.1) (.str q.2) h' = .ok (.bl (!ltS q.1 q.2)) h' := rfl
      refine ⟨_, h', rfl, ?_, Gr.refl _, fun _ => ⟨h', rfl, Gr.refl _⟩⟩
      by_cases l1 : q.1 ∈ xs
      · by_cases l2 : q.2 ∈ xs
        · simp [wipeT, mOr, mB, eBin, eVar, eC, fNotIn, ix_tup1, f1, f2, f3, tieB, l1, l2]
        · simp [wipeT, mOr, mB, eBin, eVar, eC, fNotIn, ix_tup1, f1, f2, f3, tieB, l1, l2]
      · simp [wipeT, mOr, mB, eBin, eVar, eC, fNotIn, ix_tup1, f1, f2, f3, tieB, l1]
  refine ⟨h', g, ?_⟩
  have ev : (((qs.map ofPair).map Yv.val).all fun y => !(match y with | .val (.tup [.str u, .str v]) => !tieB xs (u, v) | _ => false)) = qs.all (tieB xs) := by
    rw [List.map_map, List.all_map]
    congr 1
    funext q
    simp
  rw [ev] at e
  exact e
theorem like_net {t : T} (x : Gd b L h n t) : ∃ r, F__law_like [t, .str "net"] h = .ok (.bl (eqS "net" t)) (h ++ r) := like_str 39 x "net"
theorem ss_pairs : ∀ {ps : List T}, ps.all ss = true → ∃ qs, pairsT ps = some qs ∧ ps = qs.map ofPair
  | [], _ => ⟨[], rfl, rfl⟩
  | t :: ps, hss => by
    rw [List.all_cons, Bool.and_eq_true] at hss
    obtain ⟨qs, q1, q2⟩ := ss_pairs hss.2
    have ht := hss.1
    unfold ss at ht
    split at ht
    · rename_i u v
      rw [Bool.and_eq_true] at ht
      cases u with
      | str u =>
        cases v with
        | str v => exact ⟨(u, v) :: qs, by simp [pairsT, pairT, q1], by rw [q2]; rfl⟩
        | _ => exact absurd ht.2 (by simp [isS])
      | _ => exact absurd ht.1 (by simp [isS])
    · cases ht
/-- the first three things asked -/
def first3 : T → Bool
  | .tup [a, c, d] => eqS "net" a && (isT c && isT d)
  | _ => false
theorem mA_eq {t : T} (x : Gd b L h n t) : ∃ h', Gr h h' ∧ mA [some t, none, none, none, none] h = .ok (!first3 t) h' := by
  have e0 := inst_tup x
  cases t with
  | tup ts =>
    by_cases hw : ts.length = 3
    · match ts, hw with
      | [a, c, d], _ =>
        have hm : ∃ m, Gd b L h m a ∧ Gd b L h m c ∧ Gd b L h m d := by
          cases n with
          | zero => exact x.elim
          | succ n => exact ⟨n, x.2 a (by simp), x.2 c (by simp), x.2 d (by simp)⟩
        obtain ⟨m, xa, xc, xd⟩ := hm
        obtain ⟨r, el⟩ := like_net xa
        have ec := inst_tup (xc.mono (Nat.le_refl _) (Gw.app b h r) (Nat.le_refl _))
        have ed := inst_tup (xd.mono (Nat.le_refl _) (Gw.app b h r) (Nat.le_refl _))
        have e0' : fIsInst .tup (.tup [a, c, d]) h = .ok (.bl true) h := e0
        refine ⟨h ++ r, Gr.app h r, ?_⟩
        cases ha : eqS "net" a <;> cases hc : isT c <;> cases hd : isT d <;> rw [ha] at el <;> rw [hc] at ec <;> rw [hd] at ed <;> simp [mA, mOr, mNot, mB, eUn, eVar, e0', eBin, eCall, aCons, aNil, fLen, itemsOf, eC, fNe, fEqB, eCallF, ix_tup0, ix_tup1, ix_tup2, el, ec, ed, first3, ha, hc, hd]
    · have hn : first3 (.tup ts) = false := by
        unfold first3
        split
        · rename_i heq
          simp only [T.tup.injEq] at heq
          rw [heq] at hw; exact absurd rfl hw
        · rfl
      have hw' : ¬ ((ts.length : Int) = 3) := by omega
      refine ⟨h, Gr.refl h, ?_⟩
      simp [mA, mOr, mNot, mB, eUn, eVar, e0, isT, eBin, eCall, aCons, aNil, fLen, itemsOf, eC, fNe, fEqB, hn, hw']
  | _ =>
    refine ⟨h, Gr.refl h, ?_⟩
    simp [mA, mOr, mNot, mB, eUn, eVar, e0, isT, first3]
theorem isNm_all {xs : List Str} : (xs.map T.str).all isNm = xs.all nameB := by rw [List.all_map]; rfl
theorem net_right_eq {t : T} (x : Gd b L h n t) (hL : L ≤ 60) : ∃ h', Gr h h' ∧ F__law_net_right [t] h = .ok (.bl (netB t)) h' := by
  obtain ⟨h1, g1, e1⟩ := mA_eq x
  cases hf : first3 t with
  | false =>
    rw [hf] at e1
    have hn : netB t = false := by
      unfold netB
      split
      · simp [first3, isT] at hf
        simp [hf]
      · rfl
    refine ⟨h1, g1, ?_⟩
    simp [F__law_net_right, right_parts, runB, sSeq, sIf, SRes.of, SRes.then, e1, sRet, eC, hn]
  | true =>
    rw [hf] at e1
    unfold first3 at hf
    split at hf
    · rename_i a c d
      rw [Bool.and_eq_true, Bool.and_eq_true] at hf
      obtain ⟨ha, hc, hd⟩ := hf
      cases c with
      | tup ns =>
        cases d with
        | tup ps =>
          have hm : ∃ m, Gd b L h m (.tup ns) ∧ Gd b L h m (.tup ps) := by
            cases n with
            | zero => exact x.elim
            | succ n => exact ⟨n, x.2 _ (by simp), x.2 _ (by simp)⟩
          obtain ⟨m, xn, xp⟩ := hm
          have ln : ns.length ≤ 60 := by
            cases m with
            | zero => exact xn.elim
            | succ m => exact Nat.le_trans xn.1 hL
          have lp : ps.length ≤ 60 := by
            cases m with
            | zero => exact xp.elim
            | succ m => exact Nat.le_trans xp.1 hL
          obtain ⟨h2, g2, e2⟩ := dB1_eq (a := a) (ps := ps) (xn.mono (Nat.le_refl _) (g1.gw b) (Nat.le_refl _)) hL
          have no : namesB ns = false → netB (.tup [a, .tup ns, .tup ps]) = false := fun z => by unfold netB; simp [z]
          cases hnm : ns.all isNm with
          | false =>
            rw [hnm] at e2
            have hn : namesB ns = false := by
              unfold namesB
              cases es : strsT ns with
              | none => rfl
              | some xs => rw [strs_isNm es] at hnm; simp [hnm]
            refine ⟨h2, g1.trans g2, ?_⟩
            simp [F__law_net_right, right_parts, runB, sSeq, sIf, SRes.of, SRes.then, e1, sNil, mOr, mB, e2, sRet, eC, no hn]
          | true =>
            rw [hnm] at e2
            obtain ⟨xs, s1, s2, s3⟩ := isNm_strs hnm
            have okx := gd_strs xn s2
            have lx : xs.length ≤ 60 := by rw [s2, List.length_map] at ln; exact ln
            obtain ⟨h3, g3, e3⟩ := dB2_eq (a := a) (ps := ps) (h := h2) s2 okx (by omega)
            cases hasc : ascB ltS xs with
            | false =>
              rw [hasc] at e3
              have hn : namesB ns = false := by unfold namesB; rw [s1]; simp [hasc]
              refine ⟨h3, (g1.trans g2).trans g3, ?_⟩
              simp [F__law_net_right, right_parts, runB, sSeq, sIf, SRes.of, SRes.then, e1, sNil, mOr, mB, e2, e3, sRet, eC, no hn]
            | true =>
              rw [hasc] at e3
              have hnB : namesB ns = true := by unfold namesB; rw [s1]; simp [hasc, s3]
              by_cases h40 : ns.length ≤ 40
              · have h40' : ¬ (40 : Int) < ns.length := by omega
                have g123 := (g1.trans g2).trans g3
                obtain ⟨h4, g4, e4⟩ := dC_eq (a := a) (ns := ns) (xp.mono (Nat.le_refl _) (g123.gw b) (Nat.le_refl _)) hL
                cases hss : ps.all ss with
                | false =>
                  rw [hss] at e4
                  have hn : pairsB ps = false := by
                    unfold pairsB
                    cases es : pairsT ps with
                    | none => rfl
                    | some qs =>
                      exfalso
                      rw [pairsT_of es, List.all_map] at hss
                      have : qs.all (ss ∘ ofPair) = true := List.all_eq_true.mpr fun q _ => rfl
                      rw [this] at hss; cases hss
                  have hnet : netB (.tup [a, .tup ns, .tup ps]) = false := by unfold netB; simp [hn]
                  refine ⟨h4, g123.trans g4, ?_⟩
                  simp [F__law_net_right, right_parts, runB, sSeq, sIf, SRes.of, SRes.then, e1, sNil, mOr, mB, e2, e3, eBin, eCall, aCons, aNil, eVar, eC, ix_tup1, fLen, itemsOf, fGt, h40', e4, sRet, hnet]
                | true =>
                  rw [hss] at e4
                  obtain ⟨qs, p1, p2⟩ : ∃ qs, pairsT ps = some qs ∧ ps = qs.map ofPair := by
                    exact ss_pairs hss
                  have okq := gd_pairs xp p2
                  have lq : qs.length ≤ 60 := by rw [p2, List.length_map] at lp; exact lp
                  obtain ⟨h5, g5, e5⟩ := dD1_eq (a := a) (h := h4) s2 p2 okx okq lq
                  cases htie : qs.all (tieB xs) with
                  | false =>
                    rw [htie] at e5
                    have hnet : netB (.tup [a, .tup ns, .tup ps]) = false := by unfold netB; simp only [s1, p1, htie]; simp
                    refine ⟨h5, (g123.trans g4).trans g5, ?_⟩
                    simp [F__law_net_right, right_parts, runB, sSeq, sIf, SRes.of, SRes.then, e1, sNil, mOr, mB, e2, e3, eBin, eCall, aCons, aNil, eVar, eC, ix_tup1, fLen, itemsOf, fGt, h40', e4, sRet, eAnd, e5, hnet]
                  | true =>
                    rw [htie] at e5
                    obtain ⟨h6, g6, e6⟩ := dD2_eq (a := a) (ns := ns) (h := h5) p2 okq (by omega)
                    have hpair : qs.all pairB = true := List.all_eq_true.mpr fun q hq => by
                      have t1 := List.all_eq_true.mp htie q hq
                      unfold tieB at t1
                      rw [Bool.and_eq_true, Bool.and_eq_true, decide_eq_true_eq, decide_eq_true_eq] at t1
                      unfold pairB
                      rw [List.all_eq_true.mp s3 q.1 t1.2.1, List.all_eq_true.mp s3 q.2 t1.2.2]; rfl
                    have hnet : netB (.tup [a, .tup ns, .tup ps]) = ascB ltP qs := by
                      have hpB : pairsB ps = ascB ltP qs := by unfold pairsB; rw [p1]; simp [hpair]
                      unfold netB
                      simp only [ha, hnB, h40, hpB, s1, p1, htie, decide_true, Bool.true_and, Bool.and_true]
                    refine ⟨h6, ((g123.trans g4).trans g5).trans g6, ?_⟩
                    simp [F__law_net_right, right_parts, runB, sSeq, sIf, SRes.of, SRes.then, e1, sNil, mOr, mB, e2, e3, eBin, eCall, aCons, aNil, eVar, eC, ix_tup1, fLen, itemsOf, fGt, h40', e4, sRet, eAnd, e5, e6, hnet]
              · have h40' : (40 : Int) < ns.length := by omega
                have hnet : netB (.tup [a, .tup ns, .tup ps]) = false := by unfold netB; simp [h40]
                refine ⟨h3, (g1.trans g2).trans g3, ?_⟩
                simp [F__law_net_right, right_parts, runB, sSeq, sIf, SRes.of, SRes.then, e1, sNil, mOr, mB, e2, e3, eBin, eCall, aCons, aNil, eVar, eC, ix_tup1, fLen, itemsOf, fGt, h40', sRet, hnet]
        | _ => exact absurd hd (by simp [isT])
      | _ => exact absurd hc (by simp [isT])
    · cases hf
end
end K44

namespace K44
open PySem PySem.Spec PyProof.Rows L2 TL
/-- rows and texts alone -/
def Ts (L : Nat) : Nat → T → Prop
  | 0, _ => False
  | n + 1, t => match t with
    | .str x => x.length ≤ 100 ∧ PyData.canLay0 (.str x) = true
    | .tup ts => ts.length ≤ L ∧ ∀ t ∈ ts, Ts L n t
    | _ => False
theorem Ts.gd {b L : Nat} {h : TH} : ∀ {n : Nat} {t : T}, Ts L n t → Gd b L h n t
  | 0, _, x => x.elim
  | n + 1, t, x => by
    cases t with
    | str _ => exact x
    | tup ts => exact ⟨x.1, fun t ht => Ts.gd (x.2 t ht)⟩
    | _ => exact x.elim
theorem pick_eq {h : TH} {q : Nat} {opts : List T} {r : Int} (e : h[q]? = some (.lst opts)) (h0 : 0 ≤ r) (h1 : r < opts.length) : ∃ t ∈ opts, fIx (.ref q) (.int r) h = .ok t h := by
  refine ⟨opts[r.toNat]'(by omega), List.getElem_mem _, ?_⟩
  simp [fIx, itemsOf, e, atI_nn h0 h1]
theorem draw_eq' {h : TH} {b d : Nat} {many : Int} (x : Bx h b d) (hm : 0 < many) : ∃ (r : Int) (h' : TH), F__law_draw [.ref b, .int many] h = .ok (.int r) h' ∧ 0 ≤ r ∧ r < many ∧ Bx h' b d ∧ Gw b h h' ∧ h'.length = h.length := draw_eq x hm
theorem bx_lt {h : TH} {b d : Nat} (x : Bx h b d) : b < h.length := let ⟨_, _, e, _⟩ := x; (List.getElem?_eq_some_iff.mp e).1
def turn_lc : ME := eLc (iR1 (aCons (eCall fLen (aCons (eVar 1) (aNil))) (aNil))) (TL.gName 3) (mYes) (eBin fIx (eVar 1) (eBin fSub (eBin fSub (eCall fLen (aCons (eVar 1) (aNil))) (eC (.int 1))) (eVar 3))) [3]
theorem iR1_int {as : ML} {σ : Sl} {h h1 : TH} {j : Int} (e : as σ h = .ok [.int j] h1) (h2 : -(2 ^ 62) ≤ j ∧ j < 2 ^ 62) : iR1 as σ h = .ok (itRng 0 j.toNat) h1 := by
  unfold iR1
  rw [e, bind_ok]
  exact if_pos h2
theorem iR2_int {as : ML} {σ : Sl} {h h1 : TH} {i j : Int} (e : as σ h = .ok [.int i, .int j] h1) (h2 : -(2 ^ 62) ≤ i ∧ i < 2 ^ 62 ∧ -(2 ^ 62) ≤ j ∧ j < 2 ^ 62) : iR2 as σ h = .ok (itRng i (j - i).toNat) h1 := by
  unfold iR2
  rw [e, bind_ok]
  exact if_pos h2
theorem rng1_eq {as : ML} {σ : Sl} {h h1 : TH} {n : Nat} (e : as σ h = .ok [.int (n : Int)] h1) (hn : n ≤ 1000000) : iR1 as σ h = .ok (itRng 0 n) h1 := by
  rw [iR1_int e ⟨by omega, by omega⟩, Int.toNat_natCast]
theorem rng2_eq {as : ML} {σ : Sl} {h h1 : TH} {i n : Nat} (e : as σ h = .ok [.int (i : Int), .int (n : Int)] h1) (hi : i ≤ 1000000) (hn : n ≤ 1000000) : iR2 as σ h = .ok (itRng i (n - i)) h1 := by
  rw [iR2_int e ⟨by omega, by omega, by omega, by omega⟩]
  have : ((n : Int) - i).toNat = n - i := by omega
  rw [this]
theorem turn_eq (b : Nat) (ts : List T) (h : TH) (hl : ts.length ≤ 100) : ∃ h' us, Gr h h' ∧ turn_lc [some (.ref b), some (.tup ts), none, none] h = .ok (.ref h'.length) (h' ++ [.lst us]) ∧ us.length = ts.length ∧ ∀ u ∈ us, u ∈ ts := by
  obtain ⟨h', g, e⟩ := eLc_gr (it := iR1 (aCons (eCall fLen (aCons (eVar 1) (aNil))) (aNil))) (g := TL.gName 3) (t := mYes) (e := eBin fIx (eVar 1) (eBin fSub (eBin fSub (eCall fLen (aCons (eVar 1) (aNil))) (eC (.int 1))) (eVar 3))) (vs := [3]) (σ := [some (.ref b), some (.tup ts), none, none]) (h := h)
    (J := itRng 0 ts.length) (ys := rngY 0 ts.length) (p := fun _ => true) (f := fun y => match y with | .val (.int k) => (atI ts ((ts.length : Int) - 1 - k)).getD .non | _ => .non)
    ⟨h, rng1_eq (by simp [aCons, aNil, eCall, eVar, fLen, itemsOf]) (by omega), Gr.refl h⟩ (fun i h' _ => rng_fix i h') (by rw [rngY_len]; omega)
    fun y hy h' g => by
      obtain ⟨i, hi, ei⟩ := List.getElem_of_mem hy
      obtain ⟨q1, rfl⟩ := rngY_at (by rw [List.getElem?_eq_getElem hi, ei])
      have hp : 0 ≤ (ts.length : Int) - 1 - (0 + (i : Nat)) ∧ (ts.length : Int) - 1 - (0 + (i : Nat)) < ts.length := by omega
      have ea := atI_nn hp.1 hp.2
      refine ⟨_, h', rfl, rfl, Gr.refl _, fun _ => ⟨h', ?_, Gr.refl _⟩⟩
      have ea' : atI ts ((ts.length : Int) - 1 - (0 + (i : Int))) = _ := ea
      simp only [eBin, eVar, wipeT, List.set, List.getElem?_cons_zero, List.getElem?_cons_succ, bind_ok, eCall, aCons, aNil, fLen, itemsOf, eC, fSub, fIx, ea', Option.getD]
  refine ⟨h', _, g, e, ?_, fun u hu => ?_⟩
  · rw [List.length_map, List.filter_eq_self.mpr (fun _ _ => rfl), rngY_len]
  · obtain ⟨y, hy, rfl⟩ := List.mem_map.mp hu
    obtain ⟨i, hi, ei⟩ := List.getElem_of_mem (List.mem_filter.mp hy).1
    obtain ⟨q1, rfl⟩ := rngY_at (by rw [List.getElem?_eq_getElem hi, ei])
    have hp : 0 ≤ (ts.length : Int) - 1 - (0 + (i : Nat)) ∧ (ts.length : Int) - 1 - (0 + (i : Nat)) < ts.length := by omega
    have ea := atI_nn hp.1 hp.2
    show (atI ts ((ts.length : Int) - 1 - (0 + (i : Nat)))).getD .non ∈ ts
    rw [ea]
    exact List.getElem_mem _
theorem eTup_ok {as : ML} {σ : Sl} {h h1 : TH} {ts : List T} (e : as σ h = .ok ts h1) (hl : ts.length ≤ 1000000) : eTup as σ h = .ok (.tup ts) h1 := by
  unfold eTup
  rw [e, bind_ok]
  exact if_pos (by rw [sizeLine_eq]; omega)
theorem eLst_ok {as : ML} {σ : Sl} {h h1 : TH} {ts : List T} (e : as σ h = .ok ts h1) (hl : ts.length ≤ 1000000) : eLst as σ h = .ok (.ref h1.length) (h1 ++ [.lst ts]) := by
  unfold eLst
  rw [e, bind_ok]
  exact if_pos (by rw [sizeLine_eq]; omega)
theorem fAdd_tup {a c : List T} {h : TH} (hl : a.length + c.length ≤ 1000000) : fAdd (.tup a) (.tup c) h = .ok (.tup (a ++ c)) h := by
  unfold fAdd
  exact if_pos (by rw [sizeLine_eq]; omega)
theorem eBin_ok {f : Op2} {a c : ME} {σ : Sl} {h h1 h2 : TH} {x y : T} (e1 : a σ h = .ok x h1) (e2 : c σ h1 = .ok y h2) : eBin f a c σ h = f x y h2 := by
  unfold eBin
  rw [e1, bind_ok, e2, bind_ok]
theorem aCons_ok {a : ME} {r : ML} {σ : Sl} {h h1 h2 : TH} {x : T} {xs : List T} (e1 : a σ h = .ok x h1) (e2 : r σ h1 = .ok xs h2) : aCons a r σ h = .ok (x :: xs) h2 := by
  unfold aCons
  rw [e1, bind_ok, e2, bind_ok]
theorem eCall_ok {g : Fn} {as : ML} {σ : Sl} {h h1 : TH} {xs : List T} (e : as σ h = .ok xs h1) : eCall g as σ h = g xs h1 := by
  unfold eCall
  rw [e, bind_ok]
theorem eCallF_ok {n : Nat} {g : Fn} {as : ML} {σ : Sl} {h h1 : TH} {xs : List T} (e : as σ h = .ok xs h1) (hl : xs.length = n) : eCallF n g as σ h = g xs h1 := by
  unfold eCallF
  rw [e, bind_ok]
  exact if_pos hl
theorem var_ok {i : Nat} {σ : Sl} {h : TH} {t : T} (e : σ[i]? = some (some t)) : eVar i σ h = .ok t h := by
  unfold eVar
  rw [e]
theorem nil_ok {σ : Sl} {h : TH} : aNil σ h = .ok [] h := rfl
theorem c_ok {t : T} {σ : Sl} {h : TH} : eC t σ h = .ok t h := rfl
theorem sRet_ok {a : ME} {σ : Sl} {h h1 : TH} {t : T} (e : a σ h = .ok t h1) : sRet a σ h = .rt t h1 := by
  unfold sRet
  rw [e, of_ok]
theorem sSet_ok {a : ME} {i : Nat} {σ : Sl} {h h1 : TH} {t : T} (e : a σ h = .ok t h1) : sSet i a σ h = .nx (σ.set i (some t)) h1 := by
  unfold sSet
  rw [e, of_ok]
theorem sSeq_nx {a c : MS} {σ σ1 : Sl} {h h1 : TH} (e : a σ h = .nx σ1 h1) : sSeq a c σ h = c σ1 h1 := by
  unfold sSeq
  rw [e]; rfl
theorem sSeq_rt {a c : MS} {σ : Sl} {h h1 : TH} {t : T} (e : a σ h = .rt t h1) : sSeq a c σ h = .rt t h1 := by
  unfold sSeq
  rw [e]; rfl
theorem sIf_ok {t : MB} {a c : MS} {σ : Sl} {h h1 : TH} {k : Bool} (e : t σ h = .ok k h1) : sIf t a c σ h = if k = true then a σ h1 else c σ h1 := by
  unfold sIf
  rw [e, of_ok]
theorem runB_rt {m : MS} {nl : Nat} {ts : List T} {h h1 : TH} {t : T} (e : m (ts.map some ++ List.replicate nl none) h = .rt t h1) : runB m nl ts h = .ok t h1 := by
  unfold runB
  rw [e]
/-- what may come of a row, of a text -/
theorem other_tup {b d L n : Nat} {ts : List T} {h : TH} (x : Ts L (n + 1) (.tup ts)) (B : Bx h b d) (hL : L ≤ 50) : ∃ t' h', F__law_other [.ref b, .tup ts] h = .ok t' h' ∧ Gd b (L + 1) h' (n + 2) t' ∧ Bx h' b d ∧ Gw b h h' := by
  have hl : ts.length ≤ L := x.1
  obtain ⟨h1, us, g1, e1, lu, mu⟩ := turn_eq b ts h (by omega)
  have hb := bx_lt B
  have c1 : cutL ts none (some 1) = ts.take 1 := by
    unfold cutL
    have q1 : HT.sIx ts.length 0 none = 0 := rfl
    have q2 : HT.sIx ts.length ts.length (some 1) = min 1 ts.length := HT.sIx_nat ts.length ts.length 1
    rw [q1, q2]
    cases ts with
    | nil => rfl
    | cons a l => simp
  -- the rows made
  let h2 := h1 ++ [TO.lst us]
  let h3 := h2 ++ [TO.lst ts]
  let opts : List T := [.ref h2.length, .tup (ts ++ ts.take 1), .tup (ts.drop 1), .non, .tup [], .tup us]
  let h4 := h3 ++ [TO.lst opts]
  have G4 : Gr h h4 := ((g1.trans (Gr.app h1 [TO.lst us])).trans (Gr.app h2 [TO.lst ts])).trans (Gr.app h3 [TO.lst opts])
  obtain ⟨r, h5, e5, r0, r1, B5, G5, l5⟩ := draw_eq' (G4.bx B) (many := 6) (by decide)
  have hh : h.length ≤ h1.length := (g1.gw b).len
  have nb : ∀ q, h.length ≤ q → q ≠ b := fun q hq e => by omega
  have k4 : h5[h3.length]? = some (.lst opts) := G5.at_ _ _ (nb _ (by simp [h3, h2]; omega)) (get_last h3 _)
  obtain ⟨t', mt, et⟩ := pick_eq k4 r0 (by simpa [opts] using r1)
  refine ⟨t', h5, ?_, ?_, B5, (G4.gw b).trans G5⟩
  · have i1 : fIsInst .tup (.tup ts) h = .ok (.bl true) h := by simp [fIsInst, tyT, Ty.is]
    let σ1 : Sl := [some (.ref b), some (.tup ts), none, none]
    let σ2 : Sl := [some (.ref b), some (.tup ts), some (.tup us), none]
    have p1 : mB (eUn (fIsInst .tup) (eVar 1)) σ1 h = .ok true h := by
      unfold mB eUn
      rw [var_ok (t := .tup ts) rfl, bind_ok, i1, bind_ok]
    have p2 : eCall fTuple (aCons turn_lc aNil) σ1 h = .ok (.tup us) h2 := by
      rw [eCall_ok (aCons_ok e1 nil_ok)]
      show (match itemsOf h2 (.ref h1.length) with | some l => Res.ok (T.tup l) h2 | none => .stuck) = _
      have : itemsOf h2 (.ref h1.length) = some us := by
        show (match h2[h1.length]? with | some (.lst ts) => some ts | _ => none) = _
        rw [show h2[h1.length]? = some (.lst us) from get_last h1 _]
      rw [this]
    have v0 : ∀ h, eVar 0 σ2 h = .ok (.ref b) h := fun h => var_ok rfl
    have v1 : ∀ h, eVar 1 σ2 h = .ok (.tup ts) h := fun h => var_ok rfl
    have v2 : ∀ h, eVar 2 σ2 h = .ok (.tup us) h := fun h => var_ok rfl
    have o1 : eCall fList (aCons (eVar 1) aNil) σ2 h2 = .ok (.ref h2.length) h3 := by
      rw [eCall_ok (aCons_ok (v1 _) nil_ok)]; rfl
    have o2s : eSlice (eVar 1) oNone (oSome (eC (.int 1))) σ2 h3 = .ok (.tup (ts.take 1)) h3 := by
      unfold eSlice oNone oSome eC
      rw [v1, bind_ok, bind_ok, bind_ok, bind_ok]
      show Res.ok (T.tup (cutL ts none (some 1))) h3 = _
      rw [c1]
    have o2 : eBin fAdd (eVar 1) (eSlice (eVar 1) oNone (oSome (eC (.int 1)))) σ2 h3 = .ok (.tup (ts ++ ts.take 1)) h3 := by
      rw [eBin_ok (v1 _) o2s]
      exact fAdd_tup (by simp; omega)
    have o3 : eSlice (eVar 1) (oSome (eC (.int 1))) oNone σ2 h3 = .ok (.tup (ts.drop 1)) h3 := by
      unfold eSlice oNone oSome eC
      rw [v1, bind_ok, bind_ok, bind_ok, bind_ok]
      show Res.ok (T.tup (cutL ts (some 1) none)) h3 = _
      rw [cut1]
    have o5 : eTup aNil σ2 h3 = .ok (.tup []) h3 := eTup_ok rfl (by simp)
    have oo := eLst_ok (aCons_ok o1 (aCons_ok o2 (aCons_ok o3 (aCons_ok (show eC .non σ2 h3 = .ok .non h3 from rfl) (aCons_ok o5 (aCons_ok (v2 h3) (show aNil σ2 h3 = .ok [] h3 from rfl))))))) (by simp)
    have od : eCallF 2 F__law_draw (aCons (eVar 0) (aCons (eC (.int 6)) aNil)) σ2 h4 = .ok (.int r) h5 := by
      exact (eCallF_ok (aCons_ok (v0 h4) (aCons_ok c_ok nil_ok)) rfl).trans e5
    refine runB_rt ?_
    refine sSeq_rt ((sIf_ok p1).trans ((if_pos rfl).trans ((sSeq_nx (sSet_ok p2)).trans (sRet_ok ?_))))
    exact (eBin_ok oo od).trans et
  · have G45 : Gw b h h5 := (G4.gw b).trans G5
    have gt : ∀ t ∈ ts, Gd b (L + 1) h5 (n + 1) t := fun t ht => (Ts.gd (x.2 t ht)).mono (h := h5) (by omega) (Gw.refl b h5) (by omega)
    have k3 : h5[h2.length]? = some (.lst ts) := G5.at_ _ _ (nb _ (by simp [h2]; omega)) (app_get _ (get_last h2 _))
    simp only [opts, List.mem_cons, List.not_mem_nil, or_false] at mt
    rcases mt with rfl | rfl | rfl | rfl | rfl | rfl
    · exact ⟨nb _ (by simp [h2]; omega), ts, k3, by omega, gt⟩
    · refine ⟨by simp; omega, fun t ht => ?_⟩
      rcases List.mem_append.mp ht with z | z
      · exact gt t z
      · exact gt t (List.mem_of_mem_take z)
    · exact ⟨by simp; omega, fun t ht => gt t (List.mem_of_mem_drop ht)⟩
    · trivial
    · exact ⟨by simp, fun t ht => by cases ht⟩
    · exact ⟨by omega, fun t ht => gt t (mu t ht)⟩
def words : List T := [.str "a0", .str "a1", .str "h0", .str "h1", .str "market", .str "a", .str "A", .str "", .str "x y", .non, .str "abcdefghijk"]
theorem words_gd {b L n : Nat} {h : TH} : ∀ t ∈ words, Gd b L h (n + 1) t := by
  intro t ht
  simp only [words, List.mem_cons, List.not_mem_nil, or_false] at ht
  rcases ht with rfl | rfl | rfl | rfl | rfl | rfl | rfl | rfl | rfl | rfl | rfl
  all_goals first | trivial | exact ⟨by decide +kernel, by decide +kernel⟩
theorem other_str {b d L n : Nat} {z : Str} {h : TH} (B : Bx h b d) : ∃ t' h', F__law_other [.ref b, .str z] h = .ok t' h' ∧ Gd b L h' (n + 1) t' ∧ Bx h' b d ∧ Gw b h h' := by
  have hb := bx_lt B
  obtain ⟨r, h5, e5, r0, r1, B5, G5, l5⟩ := draw_eq' ((Gr.app h [TO.lst words]).bx B) (many := 11) (by decide)
  have k4 : h5[h.length]? = some (.lst words) := G5.at_ _ _ (by omega) (get_last h _)
  obtain ⟨t', mt, et⟩ := pick_eq k4 r0 (by simpa [words] using r1)
  refine ⟨t', h5, ?_, words_gd t' mt, B5, ((Gr.app h _).gw b).trans G5⟩
  have i1 : fIsInst .tup (.str z) h = .ok (.bl false) h := by simp [fIsInst, tyT, Ty.is]
  have i2 : fIsInst .str (.str z) h = .ok (.bl true) h := by simp [fIsInst, tyT, Ty.is]
  have l11 : (11 : Nat) ≤ sizeLine := by rw [sizeLine_eq]; omega
  have e5' : F__law_draw [.ref b, .int 11] (h ++ [TO.lst [.str "a0", .str "a1", .str "h0", .str "h1", .str "market", .str "a", .str "A", .str "", .str "x y", .non, .str "abcdefghijk"]]) = .ok (.int r) h5 := e5
  simp only [F__law_other, b__law_other, runB, List.map_cons, List.map_nil, List.cons_append, List.nil_append, List.replicate, sSeq, sIf, mB, eUn, eVar, List.getElem?_cons_zero, List.getElem?_cons_succ, bind_ok, i1, i2, of_ok, if_true, Bool.false_eq_true, if_false, sNil, SRes.then, sRet, eBin, eLst, aCons, aNil, eC, List.length_nil, List.length_cons, eCallF, e5', et, l11]
theorem eq_unit {b L n : Nat} {ts : List T} {h : TH} (x : Gd b L h n (.tup ts)) (hn : n ≤ 60) : fEqB (.tup ts) (.tup []) h = .ok (decide (ts = [])) h := by
  obtain ⟨d, e, c, dp⟩ := gd_dat x 66 (by omega)
  have e' := e
  rw [show (66 : Nat) = 65 + 1 from rfl] at e'
  have : ∃ ds, ts.mapM (dat 65 h) = some ds ∧ d = .tuple ds := by
    have e2 : (ts.mapM (dat 65 h)).map PyData.tuple = some d := e'
    rw [Option.map_eq_some_iff] at e2
    obtain ⟨ds, q1, q2⟩ := e2
    exact ⟨ds, q1, q2.symm⟩
  obtain ⟨ds, q1, rfl⟩ := this
  have hl := (mapM_some q1).1
  have sd : SeqAt.shaped (.tuple ds) = true := by
    unfold SeqAt.shaped
    rw [c, Bool.true_and, decide_eq_true_eq]; omega
  have s0 : SeqAt.shaped (.tuple []) = true := by decide
  have d0 : dat 66 h (.tup []) = some (.tuple []) := rfl
  unfold fEqB
  simp only [e, d0, sd, s0, and_self, if_true]
  cases ts with
  | nil => cases ds with
    | nil => rfl
    | cons d ds => simp at hl
  | cons t l => cases ds with
    | nil => simp at hl
    | cons d ds => simp [PyData.eqv, PyData.eqvAll]
theorem cut_take {α : Type} (l : List α) (k : Nat) (hk : k ≤ l.length) : cutL l none (some (k : Int)) = l.take k := by
  unfold cutL
  have q1 : HT.sIx l.length 0 none = 0 := rfl
  have q2 : HT.sIx l.length l.length (some (k : Int)) = min k l.length := HT.sIx_nat l.length l.length k
  rw [q1, q2, Nat.min_eq_left hk]
  simp
theorem cut_drop {α : Type} (l : List α) (k : Nat) (hk : k ≤ l.length) : cutL l (some (k : Int)) none = l.drop k := by
  unfold cutL
  have q1 : HT.sIx l.length 0 (some (k : Int)) = min k l.length := HT.sIx_nat l.length 0 k
  have q2 : HT.sIx l.length l.length none = l.length := rfl
  rw [q1, q2, Nat.min_eq_left hk]
  rw [List.take_of_length_le (by simp)]
abbrev mCh : MB := mOr (mNot (mB (eUn (fIsInst .tup) (eVar 1)))) (mOr (mB (eBin fEq (eVar 1) (eTup (aNil)))) (mB (eBin fEq (eCallF 2 F__law_draw (aCons (eVar 0) (aCons (eC (.int 9)) (aNil)))) (eC (.int 0)))))
section
variable {b d L n : Nat} {ts : List T} {h h1 : TH}
theorem mCh_a (hq : fEqB (.tup ts) (.tup []) h = .ok true h) : mCh [some (.ref b), some (.tup ts), none] h = .ok true h := by
  have i1 : fIsInst .tup (.tup ts) h = .ok (.bl true) h := by simp [fIsInst, tyT, Ty.is]
  have v1 : eVar 1 [some (.ref b), some (.tup ts), none] h = .ok (.tup ts) h := var_ok rfl
  have t2 : eBin fEq (eVar 1) (eTup aNil) [some (.ref b), some (.tup ts), none] h = .ok (.bl true) h := by
    rw [eBin_ok v1 (eTup_ok nil_ok (by simp))]
    unfold fEq
    rw [hq, bind_ok]
  unfold mCh mOr mNot mB eUn
  rw [v1, bind_ok, i1, bind_ok, bind_ok, bind_ok]
  simp only [Bool.not_true, Bool.false_eq_true, if_false]
  rw [t2, bind_ok, bind_ok]
  rfl
theorem mCh_b {r : Int} (hq : fEqB (.tup ts) (.tup []) h = .ok false h) (e1 : F__law_draw [.ref b, .int 9] h = .ok (.int r) h1) : mCh [some (.ref b), some (.tup ts), none] h = .ok (decide (r = 0)) h1 := by
  have i1 : fIsInst .tup (.tup ts) h = .ok (.bl true) h := by simp [fIsInst, tyT, Ty.is]
  have v0 : eVar 0 [some (.ref b), some (.tup ts), none] h = .ok (.ref b) h := var_ok rfl
  have v1 : eVar 1 [some (.ref b), some (.tup ts), none] h = .ok (.tup ts) h := var_ok rfl
  have t2 : eBin fEq (eVar 1) (eTup aNil) [some (.ref b), some (.tup ts), none] h = .ok (.bl false) h := by
    rw [eBin_ok v1 (eTup_ok nil_ok (by simp))]
    unfold fEq
    rw [hq, bind_ok]
  have t3 : eBin fEq (eCallF 2 F__law_draw (aCons (eVar 0) (aCons (eC (.int 9)) aNil))) (eC (.int 0)) [some (.ref b), some (.tup ts), none] h = .ok (.bl (decide (r = 0))) h1 :=
    eBin_ok ((eCallF_ok (n := 2) (aCons_ok v0 (aCons_ok c_ok nil_ok)) rfl).trans e1) c_ok
  unfold mCh mOr mNot mB eUn
  rw [v1, bind_ok, i1, bind_ok, bind_ok, bind_ok]
  simp only [Bool.not_true, Bool.false_eq_true, if_false]
  rw [t2, bind_ok, bind_ok]
  simp only [Bool.false_eq_true, if_false]
  rw [t3, bind_ok]
theorem ch_other {g : Fn} {h2 : TH} {t' : T} (tt : mCh [some (.ref b), some (.tup ts), none] h = .ok true h1) (e : F__law_other [.ref b, .tup ts] h1 = .ok t' h2) : runB (b__law_changed g) 1 [.ref b, .tup ts] h = .ok t' h2 := by
  have v0 : eVar 0 [some (.ref b), some (.tup ts), none] h1 = .ok (.ref b) h1 := var_ok rfl
  have v1 : eVar 1 [some (.ref b), some (.tup ts), none] h1 = .ok (.tup ts) h1 := var_ok rfl
  refine runB_rt ?_
  exact sSeq_rt ((sIf_ok tt).trans ((if_pos rfl).trans (sRet_ok ((eCallF_ok (aCons_ok v0 (aCons_ok v1 nil_ok)) rfl).trans e))))
theorem ch_in {g : Fn} {h2 h3 : TH} {t' : T} {q : Int} {k : Nat} (tt : mCh [some (.ref b), some (.tup ts), none] h = .ok false h1) (e2 : F__law_draw [.ref b, .int 900] h1 = .ok (.int q) h2) (hl : ts.length ≤ 50) (hk : q % (ts.length : Int) = k) (hkl : k < ts.length) (e3 : g [.ref b, ts[k]] h2 = .ok t' h3) :
    runB (b__law_changed g) 1 [.ref b, .tup ts] h = .ok (.tup (ts.take k ++ [t'] ++ ts.drop (k + 1))) h3 := by
  have c1 := cut_take ts k (by omega)
  have c2 : cutL ts (some ((k : Int) + 1)) none = ts.drop (k + 1) := cut_drop ts (k + 1) (by omega)
  have lp : (0 : Int) < ts.length := by omega
  have ea : atI ts (k : Int) = some ts[k] := by
    rw [atI_nn (by omega) (by omega)]
    simp
  have v0 : ∀ h, eVar 0 [some (.ref b), some (.tup ts), none] h = .ok (.ref b) h := fun h => var_ok rfl
  have v1 : ∀ h, eVar 1 [some (.ref b), some (.tup ts), none] h = .ok (.tup ts) h := fun h => var_ok rfl
  have w0 : ∀ h, eVar 0 [some (.ref b), some (.tup ts), some (.int k)] h = .ok (.ref b) h := fun h => var_ok rfl
  have w1 : ∀ h, eVar 1 [some (.ref b), some (.tup ts), some (.int k)] h = .ok (.tup ts) h := fun h => var_ok rfl
  have w2 : ∀ h, eVar 2 [some (.ref b), some (.tup ts), some (.int k)] h = .ok (.int k) h := fun h => var_ok rfl
  have t4 : eBin fMod (eCallF 2 F__law_draw (aCons (eVar 0) (aCons (eC (.int 900)) aNil))) (eCall fLen (aCons (eVar 1) aNil)) [some (.ref b), some (.tup ts), none] h1 = .ok (.int k) h2 := by
    have a2 : eCall fLen (aCons (eVar 1) aNil) [some (.ref b), some (.tup ts), none] h2 = .ok (.int ts.length) h2 := (eCall_ok (aCons_ok (v1 h2) nil_ok)).trans rfl
    rw [eBin_ok ((eCallF_ok (n := 2) (aCons_ok (v0 h1) (aCons_ok c_ok nil_ok)) rfl).trans e2) a2]
    unfold fMod
    rw [← hk]
    exact if_pos lp
  have o1 : eSlice (eVar 1) oNone (oSome (eVar 2)) [some (.ref b), some (.tup ts), some (.int k)] h2 = .ok (.tup (ts.take k)) h2 := by
    unfold eSlice oNone oSome
    rw [w1, bind_ok, bind_ok, w2, bind_ok, bind_ok, ← c1]
    rfl
  have o2x : eBin fIx (eVar 1) (eVar 2) [some (.ref b), some (.tup ts), some (.int k)] h2 = .ok ts[k] h2 := by
    rw [eBin_ok (w1 h2) (w2 h2)]
    unfold fIx
    simp only [itemsOf, ea]
  have o2 : eTup (aCons (eCallF 2 g (aCons (eVar 0) (aCons (eBin fIx (eVar 1) (eVar 2)) aNil))) aNil) [some (.ref b), some (.tup ts), some (.int k)] h2 = .ok (.tup [t']) h3 :=
    eTup_ok (aCons_ok ((eCallF_ok (aCons_ok (w0 h2) (aCons_ok o2x nil_ok)) rfl).trans e3) nil_ok) (by simp)
  have o3 : eSlice (eVar 1) (oSome (eBin fAdd (eVar 2) (eC (.int 1)))) oNone [some (.ref b), some (.tup ts), some (.int k)] h3 = .ok (.tup (ts.drop (k + 1))) h3 := by
    have : eBin fAdd (eVar 2) (eC (.int 1)) [some (.ref b), some (.tup ts), some (.int k)] h3 = .ok (.int ((k : Int) + 1)) h3 := (eBin_ok (w2 h3) c_ok).trans rfl
    unfold eSlice oNone oSome
    rw [w1, bind_ok, this, bind_ok, bind_ok, bind_ok, ← c2]
    rfl
  refine runB_rt ?_
  refine (sSeq_nx ((sIf_ok tt).trans (if_neg (by decide)))).trans ((sSeq_nx (sSet_ok t4)).trans (sRet_ok ?_))
  exact (eBin_ok ((eBin_ok o1 o2).trans (fAdd_tup (by simp; omega))) o3).trans (fAdd_tup (by simp; omega))
end
/-- a thing with one thing in it changed -/
theorem changed_eq {b d L : Nat} (hL : L ≤ 50) (n : Nat) : ∀ (t : T) (h : TH) (m : Nat), Ts L n t → n ≤ 50 → n ≤ m → Bx h b d → ∃ t' h', recF b__law_changed 1 m [.ref b, t] h = .ok t' h' ∧ Gd b (L + 1) h' (n + 1) t' ∧ Bx h' b d ∧ Gw b h h' := by
  induction n with
  | zero => intro _ _ _ x; exact x.elim
  | succ n ih =>
    intro t h m x hn hm B
    cases m with
    | zero => omega
    | succ m =>
    cases t with
    | str z =>
      obtain ⟨t', h', e, g, B', G⟩ := other_str (L := L + 1) (n := n + 1) (z := z) B
      refine ⟨t', h', ?_, g, B', G⟩
      have i1 : fIsInst .tup (.str z) h = .ok (.bl false) h := by simp [fIsInst, tyT, Ty.is]
      have v0 : eVar 0 [some (.ref b), some (.str z), none] h = .ok (.ref b) h := var_ok rfl
      have v1 : eVar 1 [some (.ref b), some (.str z), none] h = .ok (.str z) h := var_ok rfl
      have tt : mCh [some (.ref b), some (.str z), none] h = .ok true h := by
        unfold mCh mOr mNot mB eUn
        rw [v1, bind_ok, i1, bind_ok, bind_ok, bind_ok]
        rfl
      exact runB_rt (sSeq_rt ((sIf_ok tt).trans ((if_pos rfl).trans (sRet_ok ((eCallF_ok (aCons_ok v0 (aCons_ok v1 nil_ok)) rfl).trans e)))))
    | tup ts =>
      have gd : Gd b L h (n + 1) (.tup ts) := Ts.gd x
      have eu := eq_unit gd (by omega)
      by_cases ht : ts = []
      · obtain ⟨t', h', e, g, B', G⟩ := other_tup x B hL
        exact ⟨t', h', ch_other (mCh_a (by rw [eu, decide_eq_true ht])) e, g, B', G⟩
      · have eu' : fEqB (.tup ts) (.tup []) h = .ok false h := by rw [eu, decide_eq_false ht]
        obtain ⟨r, h1, e1, r0, r1, B1, G1, l1⟩ := draw_eq' B (many := 9) (by decide)
        by_cases hr : r = 0
        · obtain ⟨t', h', e, g, B', G⟩ := other_tup x B1 hL
          exact ⟨t', h', ch_other ((mCh_b eu' e1).trans (by rw [decide_eq_true hr])) e, g, B', G1.trans G⟩
        · obtain ⟨q, h2, e2, q0, q1, B2, G2, l2⟩ := draw_eq' B1 (many := 900) (by decide)
          have hpos : 0 < ts.length := List.length_pos_iff.mpr ht
          have a0 : 0 ≤ q % (ts.length : Int) := Int.emod_nonneg _ (by omega)
          have a1 : q % (ts.length : Int) < ts.length := Int.emod_lt_of_pos _ (by omega)
          obtain ⟨k, hk⟩ : ∃ k : Nat, q % (ts.length : Int) = k := ⟨(q % (ts.length : Int)).toNat, by omega⟩
          have hkl : k < ts.length := by omega
          have hts : ts.length ≤ L := x.1
          obtain ⟨t', h3, e3, g3, B3, G3⟩ := ih ts[k] h2 m (x.2 _ (List.getElem_mem _)) (by omega) (by omega) B2
          refine ⟨.tup (ts.take k ++ [t'] ++ ts.drop (k + 1)), h3, ch_in ((mCh_b eu' e1).trans (by rw [decide_eq_false hr])) e2 (by omega) hk hkl e3, ?_, B3, (G1.trans G2).trans G3⟩
          have gt : ∀ t ∈ ts, Gd b (L + 1) h3 (n + 1) t := fun t ht => (Ts.gd (x.2 t ht)).mono (h := h3) (by omega) (Gw.refl b h3) (by omega)
          refine ⟨by simp; omega, fun t ht => ?_⟩
          rcases List.mem_append.mp ht with z | z
          · rcases List.mem_append.mp z with z | z
            · exact gt t (List.mem_of_mem_take z)
            · rw [List.mem_singleton.mp z]; exact g3
          · exact gt t (List.mem_of_mem_drop z)
    | _ => exact x.elim
end K44

namespace K44
open PySem PySem.Spec PyProof.Rows L2 TL
/-- a comprehension whose tests depend on what was drawn -/
theorem lcN_any {J : MIt} {g : MG} {t : MB} {e : ME} {σ0 : Sl} {ys : List Yv} {I : TH → Prop} {Q : T → Prop} (hJ : Fix J ys I)
    (hb : ∀ y ∈ ys, ∀ h, I h → ∃ σ1 h1 c h2, g y σ0 h = .ok σ1 h1 ∧ t σ1 h1 = .ok c h2 ∧ I h2 ∧ (c = true → ∃ z h3, e σ1 h2 = .ok z h3 ∧ I h3 ∧ Q z)) :
    ∀ (n i : Nat) (h : TH) (acc : List T), ys.length - i < n → acc.length + (ys.length - i) ≤ sizeLine → I h → ∃ ts h', lcN J g t e σ0 n i h acc = .ok (acc ++ ts) h' ∧ I h' ∧ ts.length ≤ ys.length - i ∧ ∀ t ∈ ts, Q t
  | 0, i, h, acc, hn, _, _ => absurd hn (Nat.not_lt_zero _)
  | n + 1, i, h, acc, hn, hs, hI => by
    unfold lcN
    rw [hJ i h hI]
    cases hy : ys[i]? with
    | none => exact ⟨[], h, by simp, hI, Nat.zero_le _, fun t ht => by cases ht⟩
    | some y =>
      have hi : i < ys.length := (List.getElem?_eq_some_iff.mp hy).1
      obtain ⟨σ1, h1, c, h2, e1, e2, I2, e3⟩ := hb y (List.mem_of_getElem? hy) h hI
      simp only [e1, e2, bind_ok]
      cases c with
      | false =>
        obtain ⟨ts, h', e4, I4, l4, q4⟩ := lcN_any hJ hb n (i + 1) h2 acc (by omega) (by omega) I2
        exact ⟨ts, h', (if_neg (by decide)).trans e4, I4, by omega, q4⟩
      | true =>
        obtain ⟨z, h3, e5, I3, qz⟩ := e3 rfl
        obtain ⟨ts, h', e4, I4, l4, q4⟩ := lcN_any hJ hb n (i + 1) h3 (acc ++ [z]) (by omega) (by simp; omega) I3
        refine ⟨z :: ts, h', ?_, I4, by simp; omega, fun t ht => ?_⟩
        · rw [if_pos rfl, e5, bind_ok, if_pos (by omega), e4]
          simp
        · rcases List.mem_cons.mp ht with w | w
          · rw [w]; exact qz
          · exact q4 t w
theorem eLc_any {it : MI} {g : MG} {t : MB} {e : ME} {vs : List Nat} {σ : Sl} {h h1 : TH} {J : MIt} {ys : List Yv} {I : TH → Prop} {Q : T → Prop} (hit : it σ h = .ok J h1) (hJ : Fix J ys I) (hI : I h1) (hl : ys.length ≤ 1000000)
    (hb : ∀ y ∈ ys, ∀ h, I h → ∃ σ1 h1 c h2, g y (wipeT σ vs) h = .ok σ1 h1 ∧ t σ1 h1 = .ok c h2 ∧ I h2 ∧ (c = true → ∃ z h3, e σ1 h2 = .ok z h3 ∧ I h3 ∧ Q z)) :
    ∃ ts h', eLc it g t e vs σ h = .ok (.ref h'.length) (h' ++ [.lst ts]) ∧ I h' ∧ ts.length ≤ ys.length ∧ ∀ t ∈ ts, Q t := by
  obtain ⟨ts, h', e1, e2, e3, e4⟩ := lcN_any hJ hb FU 0 h1 [] (by unfold FU; omega) (by rw [sizeLine_eq]; simp; omega) hI
  refine ⟨ts, h', ?_, e2, by omega, e4⟩
  unfold eLc
  rw [hit, bind_ok, e1, bind_ok]
  simp
def nmT (k : Nat) : T := .str (("n" : Str) ++ (toString (k : Int) : String))
theorem nm_ok : ∀ k : Nat, k < 7 → ∀ L n, Ts L (n + 1) (nmT k) := by
  intro k hk L n
  have : k = 0 ∨ k = 1 ∨ k = 2 ∨ k = 3 ∨ k = 4 ∨ k = 5 ∨ k = 6 := by omega
  rcases this with rfl | rfl | rfl | rfl | rfl | rfl | rfl
  all_goals exact ⟨by decide +kernel, by decide +kernel⟩
theorem str_eq {σ : Sl} (k : Nat) (hk : k < 7) (h : TH) (hσ : σ[6]? = some (some (.int (0 + (k : Nat))))) : eBin fAdd (eC (.str "n")) (eCall fStr (aCons (eVar 6) aNil)) σ h = .ok (nmT k) h := by
  have e1 : fStr [.int (0 + (k : Nat))] h = .ok (.str (toString (k : Int))) h := by
    have z : (0 : Int) + (k : Nat) = (k : Int) := by omega
    rw [z]
    unfold fStr
    refine if_pos ?_
    have : k = 0 ∨ k = 1 ∨ k = 2 ∨ k = 3 ∨ k = 4 ∨ k = 5 ∨ k = 6 := by omega
    rcases this with rfl | rfl | rfl | rfl | rfl | rfl | rfl
    all_goals decide +kernel
  rw [eBin_ok c_ok ((eCall_ok (aCons_ok (var_ok hσ) nil_ok)).trans e1)]
  unfold fAdd
  refine if_pos ?_
  have : k = 0 ∨ k = 1 ∨ k = 2 ∨ k = 3 ∨ k = 4 ∨ k = 5 ∨ k = 6 := by omega
  rcases this with rfl | rfl | rfl | rfl | rfl | rfl | rfl
  all_goals decide +kernel
def dNames : ME := eLc (iR1 (aCons (eVar 1) (aNil))) (TL.gName 6) (mYes) (eBin fAdd (eC (.str "n")) (eCall fStr (aCons (eVar 6) (aNil)))) [6]
def dTies : ME := eLc (iR2 (aCons (eBin fAdd (eVar 5) (eC (.int 1))) (aCons (eVar 1) (aNil)))) (TL.gName 7) (mB (eBin fLt (eCallF 2 F__law_draw (aCons (eVar 0) (aCons (eC (.int 10)) (aNil)))) (eVar 2))) (eTup (aCons (eBin fIx (eVar 3) (eVar 5)) (aCons (eBin fIx (eVar 3) (eVar 7)) (aNil)))) [7]
theorem net_parts : b__law_net = sSeq (sSet 3 dNames) (sSeq (sSet 4 (eLst (aNil))) (sSeq (sFor (iR1 (aCons (eVar 1) (aNil))) (TL.gName 5) (sSet 4 (eBin fAdd (eVar 4) dTies))) (sRet (eTup (aCons (eC (.str "net")) (aCons (eCall fTuple (aCons (eVar 3) (aNil))) (aCons (eCall fTuple (aCons (eVar 4) (aNil))) (aNil)))))))) := rfl
def netS (b many : Nat) (thick : Int) (o3 o4 o5 : Option T) : Sl := [some (.ref b), some (.int many), some (.int thick), o3, o4, o5, none, none]
theorem names_eq (b many : Nat) (thick : Int) (hm : many ≤ 7) (h : TH) : ∃ ns h', Gr h h' ∧ dNames (netS b many thick none none none) h = .ok (.ref h'.length) (h' ++ [.lst ns]) ∧ ns.length = many ∧ ∀ t ∈ ns, ∃ k, k < 7 ∧ t = nmT k := by
  obtain ⟨h', g, e⟩ := eLc_gr (it := iR1 (aCons (eVar 1) (aNil))) (g := TL.gName 6) (t := mYes) (e := eBin fAdd (eC (.str "n")) (eCall fStr (aCons (eVar 6) (aNil)))) (vs := [6]) (σ := netS b many thick none none none) (h := h) (J := itRng 0 many) (ys := rngY 0 many) (p := fun _ => true) (f := fun y => match y with | .val (.int k) => nmT k.toNat | _ => .non)
    ⟨h, rng1_eq (aCons_ok (var_ok rfl) nil_ok) (by omega), Gr.refl h⟩ (fun i h' _ => rng_fix i h') (by rw [rngY_len]; omega)
    fun y hy h' g => by
      obtain ⟨i, hi, ei⟩ := List.getElem_of_mem hy
      obtain ⟨q1, rfl⟩ := rngY_at (by rw [List.getElem?_eq_getElem hi, ei])
      refine ⟨_, h', rfl, rfl, Gr.refl _, fun _ => ⟨h', ?_, Gr.refl _⟩⟩
      have z : ((0 : Int) + (i : Nat)).toNat = i := by omega
      show _ = Res.ok (nmT ((0 : Int) + (i : Nat)).toNat) h'
      rw [z]
      exact str_eq i (by omega) h' rfl
  refine ⟨_, h', g, e, ?_, fun t ht => ?_⟩
  · rw [List.length_map, List.filter_eq_self.mpr (fun _ _ => rfl), rngY_len]
  · obtain ⟨y, hy, rfl⟩ := List.mem_map.mp ht
    obtain ⟨i, hi, ei⟩ := List.getElem_of_mem (List.mem_filter.mp hy).1
    obtain ⟨q1, rfl⟩ := rngY_at (by rw [List.getElem?_eq_getElem hi, ei])
    exact ⟨((0 : Int) + (i : Nat)).toNat, by omega, rfl⟩
/-- one of the ties made -/
def IsTie (t : T) : Prop := ∃ j k, j < 7 ∧ k < 7 ∧ t = .tup [nmT j, nmT k]
theorem ties_eq {b d many N : Nat} {thick : Int} {ns : List T} {i : Nat} {o4 : Option T} {h : TH} (hm : many ≤ 7) (hi : i < many) (hN : N ≠ b) (B : Bx h b d) (hn : h[N]? = some (.lst ns)) (ln : ns.length = many) (mn : ∀ t ∈ ns, ∃ k, k < 7 ∧ t = nmT k) :
    ∃ ts h', dTies (netS b many thick (some (.ref N)) o4 (some (.int (i : Int)))) h = .ok (.ref h'.length) (h' ++ [.lst ts]) ∧ Bx h' b d ∧ Gw b h h' ∧ ts.length ≤ 6 ∧ ∀ t ∈ ts, IsTie t := by
  have v : ∀ (j : Nat) (z : Int) (o : Option T) (hh : TH), z < many → 0 ≤ z → hh[N]? = some (.lst ns) → ∃ k, k < 7 ∧ fIx (.ref N) (.int z) hh = .ok (nmT k) hh := by
    intro j z o hh h1 h0 e
    obtain ⟨t, mt, et⟩ := pick_eq e h0 (by rw [ln]; exact h1)
    obtain ⟨k, hk, rfl⟩ := mn t mt
    exact ⟨k, hk, et⟩
  have a1 : aCons (eBin fAdd (eVar 5) (eC (.int 1))) (aCons (eVar 1) (aNil)) (netS b many thick (some (.ref N)) o4 (some (.int (i : Int)))) h = .ok [.int ((i + 1 : Nat) : Int), .int (many : Int)] h :=
    aCons_ok ((eBin_ok (var_ok (t := .int (i : Int)) rfl) c_ok).trans rfl) (aCons_ok (var_ok rfl) nil_ok)
  obtain ⟨ts, h', e, ⟨B', G', n'⟩, l', q'⟩ := eLc_any (it := iR2 (aCons (eBin fAdd (eVar 5) (eC (.int 1))) (aCons (eVar 1) (aNil)))) (g := TL.gName 7) (t := mB (eBin fLt (eCallF 2 F__law_draw (aCons (eVar 0) (aCons (eC (.int 10)) (aNil)))) (eVar 2)))
    (e := eTup (aCons (eBin fIx (eVar 3) (eVar 5)) (aCons (eBin fIx (eVar 3) (eVar 7)) (aNil)))) (vs := [7]) (σ := netS b many thick (some (.ref N)) o4 (some (.int (i : Int)))) (h := h) (J := itRng ((i + 1 : Nat) : Int) (many - (i + 1))) (ys := rngY ((i + 1 : Nat) : Int) (many - (i + 1)))
    (I := fun h' => Bx h' b d ∧ Gw b h h' ∧ h'[N]? = some (.lst ns)) (Q := IsTie) (rng2_eq a1 (by omega) (by omega)) (fun i h' _ => rng_fix i h') ⟨B, Gw.refl b h, hn⟩ (by rw [rngY_len]; omega)
    fun y hy h1 ⟨B1, G1, n1⟩ => by
      obtain ⟨j, hj, ej⟩ := List.getElem_of_mem hy
      obtain ⟨q1, rfl⟩ := rngY_at (by rw [List.getElem?_eq_getElem hj, ej])
      obtain ⟨r, h2, e2, _, _, B2, G2, _⟩ := draw_eq' B1 (many := 10) (by decide)
      have n2 := G2.at_ _ _ hN n1
      obtain ⟨k1, hk1, f1⟩ := v 0 (i : Int) none h2 (by omega) (by omega) n2
      obtain ⟨k2, hk2, f2⟩ := v 0 (((i + 1 : Nat) : Int) + (j : Nat)) none h2 (by omega) (by omega) n2
      have w0 : eVar 0 [some (.ref b), some (.int many), some (.int thick), some (.ref N), o4, some (.int (i : Int)), none, some (.int (((i + 1 : Nat) : Int) + (j : Nat)))] h1 = .ok (.ref b) h1 := var_ok rfl
      refine ⟨[some (.ref b), some (.int many), some (.int thick), some (.ref N), o4, some (.int (i : Int)), none, some (.int (((i + 1 : Nat) : Int) + (j : Nat)))], h1, decide (r < thick), h2, rfl, ?_, ⟨B2, G1.trans G2, n2⟩, fun _ => ⟨.tup [nmT k1, nmT k2], h2, ?_, ⟨B2, G1.trans G2, n2⟩, ⟨k1, k2, hk1, hk2, rfl⟩⟩⟩
      · unfold mB
        rw [eBin_ok ((eCallF_ok (n := 2) (aCons_ok w0 (aCons_ok c_ok nil_ok)) rfl).trans e2) (var_ok rfl)]
        rfl
      · exact eTup_ok (aCons_ok ((eBin_ok (var_ok rfl) (var_ok rfl)).trans f1) (aCons_ok ((eBin_ok (var_ok rfl) (var_ok rfl)).trans f2) nil_ok)) (by simp)
  exact ⟨ts, h', e, B', G', by rw [rngY_len] at l'; omega, q'⟩
theorem tie_ts {t : T} (x : IsTie t) : ∀ n, Ts 45 (n + 2) t := by
  obtain ⟨j, k, hj, hk, rfl⟩ := x
  intro n
  refine ⟨by simp, fun t ht => ?_⟩
  rcases List.mem_cons.mp ht with e | ht
  · rw [e]; exact nm_ok j hj _ _
  · rw [List.mem_singleton.mp ht]; exact nm_ok k hk _ _
theorem fAdd_ref {p q : Nat} {a c : List T} {h : TH} (e1 : h[p]? = some (.lst a)) (e2 : h[q]? = some (.lst c)) (hl : a.length + c.length ≤ 1000000) : fAdd (.ref p) (.ref q) h = .ok (.ref h.length) (h ++ [.lst (a ++ c)]) := by
  unfold fAdd
  simp only [e1, e2]
  exact if_pos (by rw [sizeLine_eq]; omega)
theorem tuple_ref {k : Nat} {l : List T} {h : TH} (e : h[k]? = some (.lst l)) : fTuple [.ref k] h = .ok (.tup l) h := by
  simp only [fTuple, itemsOf, e]
theorem net_eq {b d many : Nat} {thick : Int} {h : TH} (hm : many ≤ 7) (B : Bx h b d) : ∃ t h', F__law_net [.ref b, .int many, .int thick] h = .ok t h' ∧ Ts 45 4 t ∧ Bx h' b d ∧ Gw b h h' := by
  have hb := bx_lt B
  obtain ⟨ns, h1, g1, e1, ln, mn⟩ := names_eq b many thick hm h
  have gh : h.length ≤ h1.length := (g1.gw b).len
  -- h2: the names at h1.length; h3: no ties at h2.length
  have G2 : Gr h (h1 ++ [TO.lst ns] ++ [TO.lst []]) := (g1.trans (Gr.app h1 _)).trans (Gr.app _ _)
  have nN : h1.length ≠ b := by omega
  obtain ⟨σ', h', e, Tm, ts, o5, q0, q1, q2, q3, q4, q5, q6, q7⟩ := forN_eq (J := itRng 0 many) (g := TL.gName 5) (b := sSet 4 (eBin fAdd (eVar 4) dTies)) (ys := rngY 0 many)
    (Iv := fun i σ hh => ∃ (Tm : Nat) (ts : List T) (o5 : Option T), σ = netS b many thick (some (.ref h1.length)) (some (.ref Tm)) o5 ∧ Bx hh b d ∧ Gw b h hh ∧ hh[h1.length]? = some (.lst ns) ∧ hh[Tm]? = some (.lst ts) ∧ Tm ≠ b ∧ ts.length ≤ 6 * i ∧ ∀ t ∈ ts, IsTie t)
    (fun i σ hh _ => rng_fix i hh)
    (fun i y hy σ hh ⟨Tm, ts, o5, q0, q1, q2, q3, q4, q5, q6, q7⟩ => by
      obtain ⟨hi, rfl⟩ := rngY_at hy
      subst q0
      have zi : (0 : Int) + (i : Nat) = (i : Int) := by omega
      obtain ⟨us, h2, e2, B2, Gw2, lu, mu⟩ := ties_eq (thick := thick) (o4 := some (.ref Tm)) hm hi nN q1 q3 ln mn
      have k1 : (h2 ++ [TO.lst us])[Tm]? = some (.lst ts) := app_get _ (Gw2.at_ _ _ q5 q4)
      have k2 : (h2 ++ [TO.lst us])[h2.length]? = some (.lst us) := get_last _ _
      have ea : eBin fAdd (eVar 4) dTies (netS b many thick (some (.ref h1.length)) (some (.ref Tm)) (some (.int (i : Int)))) hh = .ok (.ref (h2 ++ [TO.lst us]).length) (h2 ++ [TO.lst us] ++ [TO.lst (ts ++ us)]) :=
        (eBin_ok (var_ok rfl) e2).trans (fAdd_ref k1 k2 (by omega))
      have G3 : Gw b hh (h2 ++ [TO.lst us] ++ [TO.lst (ts ++ us)]) := Gw2.trans (((Gr.app h2 [TO.lst us]).trans (Gr.app _ [TO.lst (ts ++ us)])).gw b)
      refine ⟨netS b many thick (some (.ref h1.length)) (some (.ref Tm)) (some (.int (i : Int))), hh, _, _, by rw [zi]; rfl, .inl (sSet_ok ea), (h2 ++ [TO.lst us]).length, ts ++ us, some (.int (i : Int)), rfl, (B2.app _).app _, q2.trans G3, G3.at_ _ _ nN q3, get_last _ _, ?_, by rw [List.length_append]; omega, fun t ht => ?_⟩
      · have l1 := q2.len
        have l2 := Gw2.len
        have l3 : (h2 ++ [TO.lst us]).length = h2.length + 1 := by simp
        omega
      · rcases List.mem_append.mp ht with z | z
        · exact q7 t z
        · exact mu t z) FU 0 (netS b many thick (some (.ref h1.length)) (some (.ref (h1 ++ [TO.lst ns]).length)) none) (h1 ++ [TO.lst ns] ++ [TO.lst []]) (by rw [rngY_len]; unfold FU; omega) (Nat.zero_le _)
    ⟨(h1 ++ [TO.lst ns]).length, [], none, rfl, G2.bx B, G2.gw b, app_get _ (get_last _ _), get_last _ _, by simp; omega, by simp, fun t ht => by cases ht⟩
  subst q0
  rw [rngY_len] at q6
  refine ⟨.tup [.str "net", .tup ns, .tup ts], h', ?_, ?_, q1, q2⟩
  · unfold F__law_net
    rw [net_parts]
    refine runB_rt ?_
    have s1 : sSet 3 dNames (netS b many thick none none none) h = .nx (netS b many thick (some (.ref h1.length)) none none) (h1 ++ [TO.lst ns]) := sSet_ok e1
    have s2 : sSet 4 (eLst aNil) (netS b many thick (some (.ref h1.length)) none none) (h1 ++ [TO.lst ns]) = .nx (netS b many thick (some (.ref h1.length)) (some (.ref (h1 ++ [TO.lst ns]).length)) none) (h1 ++ [TO.lst ns] ++ [TO.lst []]) := sSet_ok (eLst_ok nil_ok (by simp))
    have s3 : sFor (iR1 (aCons (eVar 1) (aNil))) (TL.gName 5) (sSet 4 (eBin fAdd (eVar 4) dTies)) (netS b many thick (some (.ref h1.length)) (some (.ref (h1 ++ [TO.lst ns]).length)) none) (h1 ++ [TO.lst ns] ++ [TO.lst []]) = .nx (netS b many thick (some (.ref h1.length)) (some (.ref Tm)) o5) h' := by
      unfold sFor
      rw [rng1_eq (aCons_ok (var_ok (t := .int (many : Int)) rfl) nil_ok) (by omega), of_ok]
      exact e
    refine (sSeq_nx s1).trans ((sSeq_nx s2).trans ((sSeq_nx s3).trans (sRet_ok ?_)))
    exact eTup_ok (aCons_ok c_ok (aCons_ok ((eCall_ok (aCons_ok (var_ok rfl) nil_ok)).trans (tuple_ref q3)) (aCons_ok ((eCall_ok (aCons_ok (var_ok rfl) nil_ok)).trans (tuple_ref q4)) nil_ok))) (by simp)
  · refine ⟨by simp, fun t ht => ?_⟩
    simp only [List.mem_cons, List.not_mem_nil, or_false] at ht
    rcases ht with rfl | rfl | rfl
    · exact ⟨by decide +kernel, by decide +kernel⟩
    · refine ⟨by omega, fun t ht => ?_⟩
      obtain ⟨k, hk, rfl⟩ := mn t ht
      exact nm_ok k hk _ _
    · exact ⟨by omega, fun t ht => tie_ts (q7 t ht) 0⟩
end K44

namespace K44
open PySem PySem.Spec PyProof.Rows L2 TL
def sStep : MS := sSeq (sSet 5 (eIf (mB (eBin fGt (eVar 4) (eC (.int 0)))) (eCallF 2 F__law_changed (aCons (eVar 1) (aCons (eVar 3) (aNil)))) (eVar 3))) (sIf (mNot (mB (eCallF 2 F__law_like (aCons (eCallF 1 F_is_net (aCons (eVar 5) (aNil))) (aCons (eCallF 1 F__law_net_right (aCons (eVar 5) (aNil))) (aNil)))))) (sRet (eC (.bl false))) (sNil))
def sTurn : MS := sSeq (sSet 3 (eCallF 3 F__law_net (aCons (eVar 1) (aCons (eCallF 2 F__law_draw (aCons (eVar 1) (aCons (eC (.int 8)) (aNil)))) (aCons (eBin fAdd (eC (.int 2)) (eCallF 2 F__law_draw (aCons (eVar 1) (aCons (eC (.int 6)) (aNil))))) (aNil)))))) (sFor (iR1 (aCons (eC (.int 5)) (aNil))) (TL.gName 4) sStep)
theorem law_parts : b_law = sSeq (sSet 1 (eLst (aCons (eCallF 3 F__law_digits (aCons (eVar 0) (aCons (eC (.int 0)) (aCons (eC (.int 63)) (aNil))))) (aCons (eC (.int 0)) (aNil))))) (sSeq (sFor (iR1 (aCons (eC (.int 4)) (aNil))) (TL.gName 2) sTurn) (sRet (eC (.bl true)))) := rfl
def lawS (ns : List Int) (o2 o3 o4 o5 : Option T) : Sl := [some (.scr ns), some (.ref 1), o2, o3, o4, o5]
theorem step_eq (ns : List Int) (o2 o5 : Option T) {t : T} {j : Int} {h : TH} (x : Ts 45 4 t) (B : Bx h 1 0) : ∃ t' h', sStep (lawS ns o2 (some t) (some (.int j)) o5) h = .nx (lawS ns o2 (some t) (some (.int j)) (some t')) h' ∧ Bx h' 1 0 := by
  have thing : ∃ t' h1, eIf (mB (eBin fGt (eVar 4) (eC (.int 0)))) (eCallF 2 F__law_changed (aCons (eVar 1) (aCons (eVar 3) (aNil)))) (eVar 3) (lawS ns o2 (some t) (some (.int j)) o5) h = .ok t' h1 ∧ Gd 1 46 h1 5 t' ∧ Bx h1 1 0 := by
    have c : mB (eBin fGt (eVar 4) (eC (.int 0))) (lawS ns o2 (some t) (some (.int j)) o5) h = .ok (decide (0 < j)) h := by
      unfold mB
      rw [eBin_ok (var_ok (t := .int j) rfl) c_ok]
      rfl
    by_cases hj : 0 < j
    · obtain ⟨t', h1, e, g, B1, _⟩ := changed_eq (L := 45) (b := 1) (d := 0) (by omega) 4 t h 40 x (by omega) (by omega) B
      refine ⟨t', h1, ?_, g, B1⟩
      unfold eIf
      rw [c, bind_ok, decide_eq_true hj]
      refine (if_pos rfl).trans ?_
      exact (eCallF_ok (n := 2) (aCons_ok (var_ok (t := .ref 1) rfl) (aCons_ok (var_ok (t := t) rfl) nil_ok)) rfl).trans e
    · refine ⟨t, h, ?_, (Ts.gd x).mono (by omega) (Gw.refl 1 h) (by omega), B⟩
      unfold eIf
      rw [c, bind_ok, decide_eq_false hj]
      exact (if_neg (by decide)).trans (var_ok rfl)
  obtain ⟨t', h1, e1, g1, B1⟩ := thing
  obtain ⟨h2, G2, e2⟩ := is_net_eq g1 (by omega) (by omega)
  obtain ⟨h3, G3, e3⟩ := net_right_eq (g1.mono (Nat.le_refl _) (G2.gw 1) (Nat.le_refl _)) (by omega)
  refine ⟨t', h3, ?_, G3.bx (G2.bx B1)⟩
  have el : F__law_like [.bl (netB t'), .bl (netB t')] h3 = .ok (.bl (netB t' == netB t')) h3 := like_bl 39 (netB t') (netB t') h3
  have s1 : sSet 5 (eIf (mB (eBin fGt (eVar 4) (eC (.int 0)))) (eCallF 2 F__law_changed (aCons (eVar 1) (aCons (eVar 3) (aNil)))) (eVar 3)) (lawS ns o2 (some t) (some (.int j)) o5) h = .nx (lawS ns o2 (some t) (some (.int j)) (some t')) h1 := sSet_ok e1
  have c : mNot (mB (eCallF 2 F__law_like (aCons (eCallF 1 F_is_net (aCons (eVar 5) (aNil))) (aCons (eCallF 1 F__law_net_right (aCons (eVar 5) (aNil))) (aNil))))) (lawS ns o2 (some t) (some (.int j)) (some t')) h1 = .ok false h3 := by
    unfold mNot mB
    rw [(eCallF_ok (n := 2) (aCons_ok ((eCallF_ok (n := 1) (aCons_ok (var_ok (t := t') rfl) nil_ok) rfl).trans e2) (aCons_ok ((eCallF_ok (n := 1) (aCons_ok (var_ok (t := t') rfl) nil_ok) rfl).trans e3) nil_ok)) rfl).trans el]
    simp
  exact (sSeq_nx s1).trans ((sIf_ok c).trans (if_neg (by decide)))
theorem turn_all (ns : List Int) (o2 p3 p4 p5 : Option T) {h : TH} (B : Bx h 1 0) : ∃ o3 o4 o5 h', sTurn (lawS ns o2 p3 p4 p5) h = .nx (lawS ns o2 o3 o4 o5) h' ∧ Bx h' 1 0 := by
  obtain ⟨r, h1, e1, r0, r1, B1, _, _⟩ := draw_eq' B (many := 8) (by decide)
  obtain ⟨q, h2, e2, _, _, B2, _, _⟩ := draw_eq' B1 (many := 6) (by decide)
  obtain ⟨k, hk⟩ : ∃ k : Nat, r = k := ⟨r.toNat, by omega⟩
  subst hk
  obtain ⟨t, h3, e3, x, B3, _⟩ := net_eq (many := k) (thick := 2 + q) (by omega) B2
  have v1 : ∀ h, eVar 1 (lawS ns o2 p3 p4 p5) h = .ok (.ref 1) h := fun h => var_ok rfl
  have d1 : eCallF 2 F__law_draw (aCons (eVar 1) (aCons (eC (.int 8)) (aNil))) (lawS ns o2 p3 p4 p5) h = .ok (.int (k : Int)) h1 := (eCallF_ok (n := 2) (aCons_ok (v1 h) (aCons_ok c_ok nil_ok)) rfl).trans e1
  have d2 : eCallF 2 F__law_draw (aCons (eVar 1) (aCons (eC (.int 6)) (aNil))) (lawS ns o2 p3 p4 p5) h1 = .ok (.int q) h2 := (eCallF_ok (n := 2) (aCons_ok (v1 h1) (aCons_ok c_ok nil_ok)) rfl).trans e2
  have d3 : eBin fAdd (eC (.int 2)) (eCallF 2 F__law_draw (aCons (eVar 1) (aCons (eC (.int 6)) (aNil)))) (lawS ns o2 p3 p4 p5) h1 = .ok (.int (2 + q)) h2 := (eBin_ok c_ok d2).trans rfl
  have dn := (eCallF_ok (n := 3) (g := F__law_net) (aCons_ok (v1 h) (aCons_ok d1 (aCons_ok d3 nil_ok))) rfl).trans e3
  have s1 := sSet_ok (i := 3) dn
  obtain ⟨σ', h', e, o4, o5, q0, q1⟩ := forN_eq (J := itRng 0 5) (g := TL.gName 4) (b := sStep) (ys := rngY 0 5) (Iv := fun i σ hh => ∃ o4 o5, σ = lawS ns o2 (some t) o4 o5 ∧ Bx hh 1 0) (fun i σ hh _ => rng_fix i hh)
    (fun i y hy σ hh ⟨o4, o5, q0, q1⟩ => by
      obtain ⟨hi, rfl⟩ := rngY_at hy
      subst q0
      obtain ⟨t', h4, e4, B4⟩ := step_eq ns o2 o5 (j := 0 + (i : Nat)) x q1
      exact ⟨lawS ns o2 (some t) (some (.int (0 + (i : Nat)))) o5, hh, _, _, rfl, .inl e4, _, _, rfl, B4⟩) FU 0 (lawS ns o2 (some t) p4 p5) h3 (by rw [rngY_len]; unfold FU; omega) (Nat.zero_le _) ⟨p4, p5, rfl, B3⟩
  subst q0
  refine ⟨some t, o4, o5, h', ?_, q1⟩
  have s2 : sFor (iR1 (aCons (eC (.int 5)) (aNil))) (TL.gName 4) sStep (lawS ns o2 (some t) p4 p5) h3 = .nx (lawS ns o2 (some t) o4 o5) h' := by
    unfold sFor
    have r5 : iR1 (aCons (eC (.int 5)) (aNil)) (lawS ns o2 (some t) p4 p5) h3 = .ok (itRng 0 5) h3 := rng1_eq (as := aCons (eC (.int 5)) (aNil)) (n := 5) rfl (by omega)
    rw [r5, of_ok]
    exact e
  exact (sSeq_nx s1).trans s2
theorem sem : Sem := by
  intro ns _
  obtain ⟨ds, e1, hd, _⟩ := digits_eq ns []
  have e1' : F__law_digits [.scr ns, .int 0, .int 63] [] = .ok (.ref 0) [.lst (ds.map T.int)] := e1
  have B : Bx [TO.lst (ds.map T.int), .lst [.ref 0, .int 0]] 1 0 := ⟨0, ds, rfl, by omega, rfl, hd, by omega⟩
  obtain ⟨σ', h', e, o2, o3, o4, o5, q0, q1⟩ := forN_eq (J := itRng 0 4) (g := TL.gName 2) (b := sTurn) (ys := rngY 0 4) (Iv := fun i σ hh => ∃ o2 o3 o4 o5, σ = lawS ns o2 o3 o4 o5 ∧ Bx hh 1 0) (fun i σ hh _ => rng_fix i hh)
    (fun i y hy σ hh ⟨o2, o3, o4, o5, q0, q1⟩ => by
      obtain ⟨hi, rfl⟩ := rngY_at hy
      subst q0
      obtain ⟨p3, p4, p5, h4, e4, B4⟩ := turn_all ns (some (.int (0 + (i : Nat)))) o3 o4 o5 q1
      exact ⟨lawS ns (some (.int (0 + (i : Nat)))) o3 o4 o5, hh, _, _, rfl, .inl e4, _, _, _, _, rfl, B4⟩) FU 0 (lawS ns none none none none) [TO.lst (ds.map T.int), .lst [.ref 0, .int 0]] (by rw [rngY_len]; unfold FU; omega) (Nat.zero_le _) ⟨none, none, none, none, rfl, B⟩
  subst q0
  refine ⟨h', ?_⟩
  unfold F_law
  rw [law_parts]
  refine runB_rt ?_
  have d1 : eCallF 3 F__law_digits (aCons (eVar 0) (aCons (eC (.int 0)) (aCons (eC (.int 63)) (aNil)))) [some (.scr ns), none, none, none, none, none] [] = .ok (.ref 0) [.lst (ds.map T.int)] :=
    (eCallF_ok (n := 3) (aCons_ok (var_ok (t := .scr ns) rfl) (aCons_ok c_ok (aCons_ok c_ok nil_ok))) rfl).trans e1'
  have s1 : sSet 1 (eLst (aCons (eCallF 3 F__law_digits (aCons (eVar 0) (aCons (eC (.int 0)) (aCons (eC (.int 63)) (aNil))))) (aCons (eC (.int 0)) (aNil)))) [some (.scr ns), none, none, none, none, none] [] = .nx (lawS ns none none none none) [TO.lst (ds.map T.int), .lst [.ref 0, .int 0]] :=
    (sSet_ok (eLst_ok (aCons_ok d1 (aCons_ok c_ok nil_ok)) (by simp))).trans rfl
  have s2 : sFor (iR1 (aCons (eC (.int 4)) (aNil))) (TL.gName 2) sTurn (lawS ns none none none none) [TO.lst (ds.map T.int), .lst [.ref 0, .int 0]] = .nx (lawS ns o2 o3 o4 o5) h' := by
    unfold sFor
    have r4 : iR1 (aCons (eC (.int 4)) (aNil)) (lawS ns none none none none) [TO.lst (ds.map T.int), .lst [.ref 0, .int 0]] = .ok (itRng 0 4) [TO.lst (ds.map T.int), .lst [.ref 0, .int 0]] := rng1_eq (as := aCons (eC (.int 4)) (aNil)) (n := 4) rfl (by omega)
    rw [r4, of_ok]
    exact e
  exact (sSeq_nx s1).trans ((sSeq_nx s2).trans (sRet_ok c_ok))
theorem sealed : PySem.Challenge.rw_pairlands_k44_net_things.Holds := holds sem
end K44

theorem PySem.Challenge.cw_pairlands_k44_net_things_holds : PySem.Challenge.rw_pairlands_k44_net_things.Holds := by
  exact K44.sealed
